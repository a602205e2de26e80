import PyProof.Rows.All
import Wide.All
import OpenK.AllK
import Wide.FinOn
import KE.KStateDown
import HandS.ForMost
import HandS.WordsExc
import HandS.Exc
import HandS.TryOnly
import HandS.ExcOwn
import HandS.Flow
import HandS.Style
import HandS.Zip
import HandS.Conv
import HandS.Codes
import HandS.IsInst
import HandS.Slots
import HandS.ClsMeth
import HandS.Sort
import HandS.SortRule
import HandS.DictTup
import HandS.TupLe
import HandS.Defaults
import HandS.Head0
import HandS.Head1
import HandS.Head2
import HandS.HeadEnd
import HandS.HeadHook1
import HandS.HeadHook2
import PySem.Challenge.RW_wholepoll_k92_whole_lots_of_small_lands
set_option Elab.async false
set_option linter.all false
set_option maxRecDepth 100000
set_option maxHeartbeats 4000000
namespace Wp
open PySem PySem.Spec PyProof.Rows L2
/-! ### the text by places -/
def topS (i : Nat) : Stmt := PySem.Challenge.pw_wholepoll_k92_whole_lots_of_small_lands.main.body.getD i (.Pass ⟨0, 0, 0, 0⟩)
abbrev s_is_whole : Stmt := topS 8
abbrev s_divisor : Stmt := topS 9
abbrev s_up : Stmt := topS 11
abbrev s_fraction : Stmt := topS 13
abbrev s_under : Stmt := topS 14
abbrev s_holds : Stmt := topS 17
abbrev s_members : Stmt := topS 20
abbrev s_size : Stmt := topS 21
abbrev s_put_together : Stmt := topS 23
abbrev s_joined : Stmt := topS 24
abbrev s_ballots_in : Stmt := topS 25
abbrev s_lots_of : Stmt := topS 31
abbrev s_vote_of : Stmt := topS 35
abbrev s_votes_of : Stmt := topS 36
abbrev s_hurdle_of : Stmt := topS 37
abbrev s_marks_of : Stmt := topS 38
abbrev s_goes_ahead : Stmt := topS 39
abbrev s_seat_due : Stmt := topS 40
abbrev s_rounds_of : Stmt := topS 43
abbrev s_evening : Stmt := topS 44
abbrev s_evened_by : Stmt := topS 45
abbrev s_ballots_of : Stmt := topS 51
abbrev s_passes_by : Stmt := topS 66
abbrev s_margin_for : Stmt := topS 87
abbrev s_unseen_in : Stmt := topS 90
abbrev s_sheets_by : Stmt := topS 92
abbrev s_settles : Stmt := topS 93
abbrev s_is_in : Stmt := topS 94
abbrev s_settling : Stmt := topS 95
abbrev s_least_lots : Stmt := topS 96
abbrev s_greatest_open : Stmt := topS 97
abbrev s_must_look : Stmt := topS 98
abbrev s_fewest : Stmt := topS 99
abbrev s_is_count : Stmt := topS 105
abbrev s_areas_of : Stmt := topS 110
abbrev s_law_bag : Stmt := topS 113
abbrev s_law_take : Stmt := topS 114
abbrev s_law_one : Stmt := topS 115
abbrev s_law_alike : Stmt := topS 116
abbrev s_law_mixed : Stmt := topS 117
abbrev s_law_takers : Stmt := topS 118
abbrev s_law_many : Stmt := topS 119
abbrev s_law_wanted : Stmt := topS 120
abbrev s_law_sheet : Stmt := topS 121
abbrev s_law_partings : Stmt := topS 122
abbrev s_law_outcome : Stmt := topS 123
abbrev s_law_area : Stmt := topS 124
abbrev s_law_in : Stmt := topS 125
abbrev s_law_settles : Stmt := topS 126
abbrev s_law_less : Stmt := topS 127
abbrev s_law_moved : Stmt := topS 128
abbrev s_law_lots_right : Stmt := topS 129
abbrev s_law : Stmt := topS 130
abbrev s_Way_init : Stmt := inClass (topS 32) 0
abbrev s_Way_ahead : Stmt := inClass (topS 32) 1
abbrev s_Way_outcome : Stmt := inClass (topS 32) 4
abbrev s_Lists_init : Stmt := inClass (topS 41) 0
abbrev s_Lists_least_votes : Stmt := inClass (topS 41) 1
abbrev s_Lists_mark : Stmt := inClass (topS 41) 2
abbrev s_Lists_counted : Stmt := inClass (topS 41) 3
abbrev s_Lists_told_by : Stmt := inClass (topS 41) 4
abbrev s_House_init : Stmt := inClass (topS 47) 1
abbrev s_House_had : Stmt := inClass (topS 47) 2
abbrev s_House_evening_paper : Stmt := inClass (topS 47) 3
abbrev s_House_of_evening : Stmt := inClass (topS 47) 5
abbrev s_House_in_all : Stmt := inClass (topS 47) 7
abbrev s_Margin_init : Stmt := inClass (topS 59) 0
abbrev s_ListsMargin_held : Stmt := inClass (topS 67) 4
abbrev s_LandMargin_init : Stmt := inClass (topS 89) 0
abbrev s_LandMargin_even_held : Stmt := inClass (topS 89) 7
abbrev s_LandMargin_held : Stmt := inClass (topS 89) 8
abbrev s_Land_init : Stmt := inClass (topS 111) 1
abbrev s_Land_ahead : Stmt := inClass (topS 111) 2
abbrev s_Land_votes : Stmt := inClass (topS 111) 3
abbrev s_Land_least_votes : Stmt := inClass (topS 111) 4
abbrev s_Land_mark : Stmt := inClass (topS 111) 5
theorem sc_is_whole : FnScope ["thing"] ["thing"] (defScope s_is_whole) := ⟨rfl, rfl, rfl, by decide +kernel, rfl, by decide +kernel, by decide +kernel⟩
theorem sc_divisor : FnScope ["one", "other", "rest"] ["one", "other"] (defScope s_divisor) := ⟨rfl, rfl, rfl, by decide +kernel, rfl, by decide +kernel, by decide +kernel⟩
theorem sc_up : FnScope ["top", "bottom", "times", "rest"] ["top", "bottom"] (defScope s_up) := ⟨rfl, rfl, rfl, by decide +kernel, rfl, by decide +kernel, by decide +kernel⟩
theorem sc_fraction : FnScope ["top", "bottom", "by"] ["top", "bottom"] (defScope s_fraction) := ⟨rfl, rfl, rfl, by decide +kernel, rfl, by decide +kernel, by decide +kernel⟩
theorem sc_under : FnScope ["one", "other"] ["one", "other"] (defScope s_under) := ⟨rfl, rfl, rfl, by decide +kernel, rfl, by decide +kernel, by decide +kernel⟩
theorem sc_holds : FnScope ["mask", "hand"] ["mask", "hand"] (defScope s_holds) := ⟨rfl, rfl, rfl, by decide +kernel, rfl, by decide +kernel, by decide +kernel⟩
theorem sc_members : FnScope ["mask", "found", "hand"] ["mask"] (defScope s_members) := ⟨rfl, rfl, rfl, by decide +kernel, rfl, by decide +kernel, by decide +kernel⟩
theorem sc_size : FnScope ["mask"] ["mask"] (defScope s_size) := ⟨rfl, rfl, rfl, by decide +kernel, rfl, by decide +kernel, by decide +kernel⟩
theorem sc_put_together : FnScope ["lines", "many", "slip", "number", "line"] ["lines"] (defScope s_put_together) := ⟨rfl, rfl, rfl, by decide +kernel, rfl, by decide +kernel, by decide +kernel⟩
theorem sc_joined : FnScope ["sheets", "lines", "sheet"] ["sheets"] (defScope s_joined) := ⟨rfl, rfl, rfl, by decide +kernel, rfl, by decide +kernel, by decide +kernel⟩
theorem sc_ballots_in : FnScope ["sheet", "slip", "number"] ["sheet"] (defScope s_ballots_in) := ⟨rfl, rfl, rfl, by decide +kernel, rfl, by decide +kernel, by decide +kernel⟩
theorem sc_lots_of : FnScope ["hands", "lots", "lot"] ["hands", "lots"] (defScope s_lots_of) := ⟨rfl, rfl, rfl, by decide +kernel, rfl, by decide +kernel, by decide +kernel⟩
theorem sc_vote_of : FnScope ["slip", "first"] ["slip"] (defScope s_vote_of) := ⟨rfl, rfl, rfl, by decide +kernel, rfl, by decide +kernel, by decide +kernel⟩
theorem sc_votes_of : FnScope ["sheet", "hands", "found", "slip", "number", "place"] ["sheet", "hands"] (defScope s_votes_of) := ⟨rfl, rfl, rfl, by decide +kernel, rfl, by decide +kernel, by decide +kernel⟩
theorem sc_hurdle_of : FnScope ["hurdle", "top", "bottom"] ["hurdle"] (defScope s_hurdle_of) := ⟨rfl, rfl, rfl, by decide +kernel, rfl, by decide +kernel, by decide +kernel⟩
theorem sc_marks_of : FnScope ["way", "votes", "least", "had", "marks", "hand"] ["way", "votes", "least", "had"] (defScope s_marks_of) := ⟨rfl, rfl, rfl, by decide +kernel, rfl, by decide +kernel, by decide +kernel⟩
theorem sc_goes_ahead : FnScope ["way", "marks", "one", "other"] ["way", "marks", "one", "other"] (defScope s_goes_ahead) := ⟨rfl, rfl, rfl, by decide +kernel, rfl, by decide +kernel, by decide +kernel⟩
theorem sc_seat_due : FnScope ["way", "marks", "best", "hand"] ["way", "marks"] (defScope s_seat_due) := ⟨rfl, rfl, rfl, by decide +kernel, rfl, by decide +kernel, by decide +kernel⟩
theorem sc_rounds_of : FnScope ["land", "votes", "least", "had", "many", "now", "rounds", "marks", "hand"] ["land", "votes", "least", "had", "many"] (defScope s_rounds_of) := ⟨rfl, rfl, rfl, by decide +kernel, rfl, by decide +kernel, by decide +kernel⟩
theorem sc_evening : FnScope ["land", "votes", "had", "least"] ["land", "votes", "had"] (defScope s_evening) := ⟨rfl, rfl, rfl, by decide +kernel, rfl, by decide +kernel, by decide +kernel⟩
theorem sc_evened_by : FnScope ["land", "paper", "found", "marks", "hand"] ["land", "paper"] (defScope s_evened_by) := ⟨rfl, rfl, rfl, by decide +kernel, rfl, by decide +kernel, by decide +kernel⟩
theorem sc_ballots_of : FnScope ["sheets", "sheet"] ["sheets"] (defScope s_ballots_of) := ⟨rfl, rfl, rfl, by decide +kernel, rfl, by decide +kernel, by decide +kernel⟩
theorem sc_passes_by : FnScope ["way", "one", "other", "hands", "left", "right"] ["way", "one", "other", "hands"] (defScope s_passes_by) := ⟨rfl, rfl, rfl, by decide +kernel, rfl, by decide +kernel, by decide +kernel⟩
theorem sc_margin_for : FnScope ["way"] ["way"] (defScope s_margin_for) := ⟨rfl, rfl, rfl, by decide +kernel, rfl, by decide +kernel, by decide +kernel⟩
theorem sc_unseen_in : FnScope ["known", "seen", "whole", "part"] ["known", "seen"] (defScope s_unseen_in) := ⟨rfl, rfl, rfl, by decide +kernel, rfl, by decide +kernel, by decide +kernel⟩
theorem sc_sheets_by : FnScope ["land", "bundles", "area", "at", "sheet"] ["land", "bundles"] (defScope s_sheets_by) := ⟨rfl, rfl, rfl, by decide +kernel, rfl, by decide +kernel, by decide +kernel⟩
theorem sc_settles : FnScope ["land", "bundles", "lot", "known", "seen", "at", "bundle"] ["land", "bundles", "lot"] (defScope s_settles) := ⟨rfl, rfl, rfl, by decide +kernel, rfl, by decide +kernel, by decide +kernel⟩
theorem sc_is_in : FnScope ["one", "other"] ["one", "other"] (defScope s_is_in) := ⟨rfl, rfl, rfl, by decide +kernel, rfl, by decide +kernel, by decide +kernel⟩
theorem sc_settling : FnScope ["land", "bundles", "lot"] ["land", "bundles"] (defScope s_settling) := ⟨rfl, rfl, rfl, by decide +kernel, rfl, by decide +kernel, by decide +kernel⟩
theorem sc_least_lots : FnScope ["land", "bundles", "some", "lot", "one"] ["land", "bundles"] (defScope s_least_lots) := ⟨rfl, rfl, rfl, by decide +kernel, rfl, by decide +kernel, by decide +kernel⟩
theorem sc_greatest_open : FnScope ["land", "bundles", "some", "others", "lot", "one"] ["land", "bundles"] (defScope s_greatest_open) := ⟨rfl, rfl, rfl, by decide +kernel, rfl, by decide +kernel, by decide +kernel⟩
theorem sc_must_look : FnScope ["land", "bundles", "found", "lot"] ["land", "bundles"] (defScope s_must_look) := ⟨rfl, rfl, rfl, by decide +kernel, rfl, by decide +kernel, by decide +kernel⟩
theorem sc_fewest : FnScope ["land", "bundles", "lot"] ["land", "bundles"] (defScope s_fewest) := ⟨rfl, rfl, rfl, by decide +kernel, rfl, by decide +kernel, by decide +kernel⟩
theorem sc_is_count : FnScope ["thing", "most"] ["thing", "most"] (defScope s_is_count) := ⟨rfl, rfl, rfl, by decide +kernel, rfl, by decide +kernel, by decide +kernel⟩
theorem sc_areas_of : FnScope ["areas", "way"] ["areas"] (defScope s_areas_of) := ⟨rfl, rfl, rfl, by decide +kernel, rfl, by decide +kernel, by decide +kernel⟩
theorem sc_law_bag : FnScope ["_law_script", "_law_cell"] ["_law_script"] (defScope s_law_bag) := ⟨rfl, rfl, rfl, by decide +kernel, rfl, by decide +kernel, by decide +kernel⟩
theorem sc_law_take : FnScope ["_law_bag_here", "_law_many_here", "_law_cell", "_law_mixed_here", "_law_drawn", "_law_early", "_law_second"] ["_law_bag_here", "_law_many_here"] (defScope s_law_take) := ⟨rfl, rfl, rfl, by decide +kernel, rfl, by decide +kernel, by decide +kernel⟩
theorem sc_law_one : FnScope ["_law_bag_here", "_law_some"] ["_law_bag_here", "_law_some"] (defScope s_law_one) := ⟨rfl, rfl, rfl, by decide +kernel, rfl, by decide +kernel, by decide +kernel⟩
theorem sc_law_alike : FnScope ["_law_found", "_law_due"] ["_law_found", "_law_due"] (defScope s_law_alike) := ⟨rfl, rfl, rfl, by decide +kernel, rfl, by decide +kernel, by decide +kernel⟩
theorem sc_law_mixed : FnScope ["_law_bag_here", "_law_things", "_law_found", "_law_thing"] ["_law_bag_here", "_law_things"] (defScope s_law_mixed) := ⟨rfl, rfl, rfl, by decide +kernel, rfl, by decide +kernel, by decide +kernel⟩
theorem sc_law_takers : FnScope ["_law_votes", "_law_wanted_here", "_law_had", "_law_seats", "_law_step", "_law_lots", "_law_found", "_law_now", "_law_hand", "_law_part", "_law_seat", "_law_best", "_law_mine", "_law_its"] ["_law_votes", "_law_wanted_here", "_law_had", "_law_seats", "_law_step", "_law_lots"] (defScope s_law_takers) := ⟨rfl, rfl, rfl, by decide +kernel, rfl, by decide +kernel, by decide +kernel⟩
theorem sc_law_many : FnScope ["_law_hands", "_law_takers_here", "_law_hand", "_law_one_here"] ["_law_hands", "_law_takers_here"] (defScope s_law_many) := ⟨rfl, rfl, rfl, by decide +kernel, rfl, by decide +kernel, by decide +kernel⟩
theorem sc_law_wanted : FnScope ["_law_hurdle", "_law_ballots"] ["_law_hurdle", "_law_ballots"] (defScope s_law_wanted) := ⟨rfl, rfl, rfl, by decide +kernel, rfl, by decide +kernel, by decide +kernel⟩
theorem sc_law_sheet : FnScope ["_law_votes", "_law_hands", "_law_found", "_law_hand", "_law_row"] ["_law_votes"] (defScope s_law_sheet) := ⟨rfl, rfl, rfl, by decide +kernel, rfl, by decide +kernel, by decide +kernel⟩
theorem sc_law_partings : FnScope ["_law_many_here", "_law_parts", "_law_found", "_law_first", "_law_rest"] ["_law_many_here", "_law_parts"] (defScope s_law_partings) := ⟨rfl, rfl, rfl, by decide +kernel, rfl, by decide +kernel, by decide +kernel⟩
theorem sc_law_outcome : FnScope ["_law_hands", "_law_world", "_law_rows", "_law_areas", "_law_evened", "_law_lots", "_law_hurdle", "_law_step", "_law_seats", "_law_area_here", "_law_votes", "_law_wanted_here", "_law_had", "_law_takers_here", "_law_hand", "_law_row"] ["_law_hands", "_law_world", "_law_rows"] (defScope s_law_outcome) := ⟨rfl, rfl, rfl, by decide +kernel, rfl, by decide +kernel, by decide +kernel⟩
theorem sc_law_area : FnScope ["_law_bag_here", "_law_hands", "_law_hurdle"] ["_law_bag_here", "_law_hands"] (defScope s_law_area) := ⟨rfl, rfl, rfl, by decide +kernel, rfl, by decide +kernel, by decide +kernel⟩
theorem sc_law_in : FnScope ["_law_lot", "_law_k"] ["_law_lot", "_law_k"] (defScope s_law_in) := ⟨rfl, rfl, rfl, by decide +kernel, rfl, by decide +kernel, by decide +kernel⟩
theorem sc_law_settles : FnScope ["_law_hands", "_law_world", "_law_bundles", "_law_lot", "_law_many_here", "_law_mine", "_law_seen", "_law_unseen", "_law_k", "_law_inside", "_law_own", "_law_due", "_law_fillings", "_law_left", "_law_grown", "_law_rows", "_law_later", "_law_j", "_law_area_here", "_law_votes", "_law_hand", "_law_row", "_law_its", "_law_one_here", "_law_other"] ["_law_hands", "_law_world", "_law_bundles", "_law_lot"] (defScope s_law_settles) := ⟨rfl, rfl, rfl, by decide +kernel, rfl, by decide +kernel, by decide +kernel⟩
theorem sc_law_less : FnScope ["_law_one_here", "_law_lot"] ["_law_one_here", "_law_lot"] (defScope s_law_less) := ⟨rfl, rfl, rfl, by decide +kernel, rfl, by decide +kernel, by decide +kernel⟩
theorem sc_law_moved : FnScope ["_law_lot", "_law_order", "_law_at", "_law_k"] ["_law_lot", "_law_order"] (defScope s_law_moved) := ⟨rfl, rfl, rfl, by decide +kernel, rfl, by decide +kernel, by decide +kernel⟩
theorem sc_law_lots_right : FnScope ["_law_due", "_law_least", "_law_most", "_law_must", "_law_lots", "_law_good", "_law_bad", "_law_one_here", "_law_k", "_law_lot"] ["_law_due", "_law_least", "_law_most", "_law_must"] (defScope s_law_lots_right) := ⟨rfl, rfl, rfl, by decide +kernel, rfl, by decide +kernel, by decide +kernel⟩
theorem sc_law : FnScope ["_law_script", "_law_bag_here", "_law_hands", "_law_many_here", "_law_k", "_law_areas", "_law_hurdle", "_law_world", "_law_ways", "_law_land", "_law_bundles", "_law_votes", "_law_ballot", "_law_told", "_law_lots", "_law_due", "_law_least", "_law_most", "_law_must", "_law_order", "_law_found", "_law_area_here", "_law_lot"] ["_law_script"] (defScope s_law) := ⟨rfl, rfl, rfl, by decide +kernel, rfl, by decide +kernel, by decide +kernel⟩
theorem sc_Way_init : FnScope ["self", "hands", "seats", "lots"] ["self", "hands", "seats", "lots"] (defScope s_Way_init) := ⟨rfl, rfl, rfl, by decide +kernel, rfl, by decide +kernel, by decide +kernel⟩
theorem sc_Way_ahead : FnScope ["self", "one", "other"] ["self", "one", "other"] (defScope s_Way_ahead) := ⟨rfl, rfl, rfl, by decide +kernel, rfl, by decide +kernel, by decide +kernel⟩
theorem sc_Way_outcome : FnScope ["self", "sheet"] ["self", "sheet"] (defScope s_Way_outcome) := ⟨rfl, rfl, rfl, by decide +kernel, rfl, by decide +kernel, by decide +kernel⟩
theorem sc_Lists_init : FnScope ["self", "hands", "seats", "lots", "hurdle", "step"] ["self", "hands", "seats", "lots", "hurdle", "step"] (defScope s_Lists_init) := ⟨rfl, rfl, rfl, by decide +kernel, rfl, by decide +kernel, by decide +kernel⟩
theorem sc_Lists_least_votes : FnScope ["self", "ballots"] ["self", "ballots"] (defScope s_Lists_least_votes) := ⟨rfl, rfl, rfl, by decide +kernel, rfl, by decide +kernel, by decide +kernel⟩
theorem sc_Lists_mark : FnScope ["self", "many", "had"] ["self", "many", "had"] (defScope s_Lists_mark) := ⟨rfl, rfl, rfl, by decide +kernel, rfl, by decide +kernel, by decide +kernel⟩
theorem sc_Lists_counted : FnScope ["self", "sheet", "votes", "least", "had", "rounds", "marks", "hand"] ["self", "sheet"] (defScope s_Lists_counted) := ⟨rfl, rfl, rfl, by decide +kernel, rfl, by decide +kernel, by decide +kernel⟩
theorem sc_Lists_told_by : FnScope ["self", "paper", "found", "marks", "hand"] ["self", "paper"] (defScope s_Lists_told_by) := ⟨rfl, rfl, rfl, by decide +kernel, rfl, by decide +kernel, by decide +kernel⟩
theorem sc_House_init : FnScope ["self", "land", "sheets", "sheet", "way"] ["self", "land", "sheets"] (defScope s_House_init) := ⟨rfl, rfl, rfl, by decide +kernel, rfl, by decide +kernel, by decide +kernel⟩
theorem sc_House_had : FnScope ["self", "hand", "some"] ["self"] (defScope s_House_had) := ⟨rfl, rfl, rfl, by decide +kernel, rfl, by decide +kernel, by decide +kernel⟩
theorem sc_House_evening_paper : FnScope ["self"] ["self"] (defScope s_House_evening_paper) := ⟨rfl, rfl, rfl, by decide +kernel, rfl, by decide +kernel, by decide +kernel⟩
theorem sc_House_of_evening : FnScope ["self"] ["self"] (defScope s_House_of_evening) := ⟨rfl, rfl, rfl, by decide +kernel, rfl, by decide +kernel, by decide +kernel⟩
theorem sc_House_in_all : FnScope ["self", "one", "other"] ["self"] (defScope s_House_in_all) := ⟨rfl, rfl, rfl, by decide +kernel, rfl, by decide +kernel, by decide +kernel⟩
theorem sc_Margin_init : FnScope ["self", "way"] ["self", "way"] (defScope s_Margin_init) := ⟨rfl, rfl, rfl, by decide +kernel, rfl, by decide +kernel, by decide +kernel⟩
theorem sc_ListsMargin_held : FnScope ["self", "seen", "unseen", "known", "way", "votes", "least", "seats", "a", "could", "b", "one"] ["self", "seen", "unseen", "known"] (defScope s_ListsMargin_held) := ⟨rfl, rfl, rfl, by decide +kernel, rfl, by decide +kernel, by decide +kernel⟩
theorem sc_LandMargin_init : FnScope ["self", "land", "way"] ["self", "land"] (defScope s_LandMargin_init) := ⟨rfl, rfl, rfl, by decide +kernel, rfl, by decide +kernel, by decide +kernel⟩
theorem sc_LandMargin_even_held : FnScope ["self", "seen", "unseen", "known", "land", "house", "evened", "seats", "votes", "least", "a", "could", "b", "one"] ["self", "seen", "unseen", "known"] (defScope s_LandMargin_even_held) := ⟨rfl, rfl, rfl, by decide +kernel, rfl, by decide +kernel, by decide +kernel⟩
theorem sc_LandMargin_held : FnScope ["self", "seen", "unseen", "known", "area", "margin"] ["self", "seen", "unseen", "known"] (defScope s_LandMargin_held) := ⟨rfl, rfl, rfl, by decide +kernel, rfl, by decide +kernel, by decide +kernel⟩
theorem sc_Land_init : FnScope ["self", "areas", "evened", "lots", "hurdle", "step"] ["self", "areas", "evened", "lots", "hurdle", "step"] (defScope s_Land_init) := ⟨rfl, rfl, rfl, by decide +kernel, rfl, by decide +kernel, by decide +kernel⟩
theorem sc_Land_ahead : FnScope ["self", "one", "other"] ["self", "one", "other"] (defScope s_Land_ahead) := ⟨rfl, rfl, rfl, by decide +kernel, rfl, by decide +kernel, by decide +kernel⟩
theorem sc_Land_votes : FnScope ["self", "sheets", "found", "sheet", "one", "other"] ["self", "sheets"] (defScope s_Land_votes) := ⟨rfl, rfl, rfl, by decide +kernel, rfl, by decide +kernel, by decide +kernel⟩
theorem sc_Land_least_votes : FnScope ["self", "ballots"] ["self", "ballots"] (defScope s_Land_least_votes) := ⟨rfl, rfl, rfl, by decide +kernel, rfl, by decide +kernel, by decide +kernel⟩
theorem sc_Land_mark : FnScope ["self", "many", "had"] ["self", "many", "had"] (defScope s_Land_mark) := ⟨rfl, rfl, rfl, by decide +kernel, rfl, by decide +kernel, by decide +kernel⟩
/-! ### defs as the head tells them -/
def d_is_whole : He.DefD := ⟨("is_whole", none), "is_whole", "is_whole", defArgs s_is_whole, defBody s_is_whole, defScope s_is_whole, [], []⟩
def d_divisor : He.DefD := ⟨("divisor", none), "divisor", "divisor", defArgs s_divisor, defBody s_divisor, defScope s_divisor, [], []⟩
def d_up : He.DefD := ⟨("up", none), "up", "up", defArgs s_up, defBody s_up, defScope s_up, [], []⟩
def d_fraction : He.DefD := ⟨("fraction", none), "fraction", "fraction", defArgs s_fraction, defBody s_fraction, defScope s_fraction, [], []⟩
def d_under : He.DefD := ⟨("under", none), "under", "under", defArgs s_under, defBody s_under, defScope s_under, [], []⟩
def d_holds : He.DefD := ⟨("holds", none), "holds", "holds", defArgs s_holds, defBody s_holds, defScope s_holds, [], []⟩
def d_members : He.DefD := ⟨("members", none), "members", "members", defArgs s_members, defBody s_members, defScope s_members, [], []⟩
def d_size : He.DefD := ⟨("size", none), "size", "size", defArgs s_size, defBody s_size, defScope s_size, [], []⟩
def d_put_together : He.DefD := ⟨("put_together", none), "put_together", "put_together", defArgs s_put_together, defBody s_put_together, defScope s_put_together, [], []⟩
def d_joined : He.DefD := ⟨("joined", none), "joined", "joined", defArgs s_joined, defBody s_joined, defScope s_joined, [], []⟩
def d_ballots_in : He.DefD := ⟨("ballots_in", none), "ballots_in", "ballots_in", defArgs s_ballots_in, defBody s_ballots_in, defScope s_ballots_in, [], []⟩
def d_lots_of : He.DefD := ⟨("lots_of", none), "lots_of", "lots_of", defArgs s_lots_of, defBody s_lots_of, defScope s_lots_of, [], []⟩
def d_vote_of : He.DefD := ⟨("vote_of", none), "vote_of", "vote_of", defArgs s_vote_of, defBody s_vote_of, defScope s_vote_of, [], []⟩
def d_votes_of : He.DefD := ⟨("votes_of", none), "votes_of", "votes_of", defArgs s_votes_of, defBody s_votes_of, defScope s_votes_of, [], []⟩
def d_hurdle_of : He.DefD := ⟨("hurdle_of", none), "hurdle_of", "hurdle_of", defArgs s_hurdle_of, defBody s_hurdle_of, defScope s_hurdle_of, [], []⟩
def d_marks_of : He.DefD := ⟨("marks_of", none), "marks_of", "marks_of", defArgs s_marks_of, defBody s_marks_of, defScope s_marks_of, [], []⟩
def d_goes_ahead : He.DefD := ⟨("goes_ahead", none), "goes_ahead", "goes_ahead", defArgs s_goes_ahead, defBody s_goes_ahead, defScope s_goes_ahead, [], []⟩
def d_seat_due : He.DefD := ⟨("seat_due", none), "seat_due", "seat_due", defArgs s_seat_due, defBody s_seat_due, defScope s_seat_due, [], []⟩
def d_rounds_of : He.DefD := ⟨("rounds_of", none), "rounds_of", "rounds_of", defArgs s_rounds_of, defBody s_rounds_of, defScope s_rounds_of, [], []⟩
def d_evening : He.DefD := ⟨("evening", none), "evening", "evening", defArgs s_evening, defBody s_evening, defScope s_evening, [], []⟩
def d_evened_by : He.DefD := ⟨("evened_by", none), "evened_by", "evened_by", defArgs s_evened_by, defBody s_evened_by, defScope s_evened_by, [], []⟩
def d_ballots_of : He.DefD := ⟨("ballots_of", none), "ballots_of", "ballots_of", defArgs s_ballots_of, defBody s_ballots_of, defScope s_ballots_of, [], []⟩
def d_passes_by : He.DefD := ⟨("passes_by", none), "passes_by", "passes_by", defArgs s_passes_by, defBody s_passes_by, defScope s_passes_by, [], []⟩
def d_margin_for : He.DefD := ⟨("margin_for", none), "margin_for", "margin_for", defArgs s_margin_for, defBody s_margin_for, defScope s_margin_for, [], []⟩
def d_unseen_in : He.DefD := ⟨("unseen_in", none), "unseen_in", "unseen_in", defArgs s_unseen_in, defBody s_unseen_in, defScope s_unseen_in, [], []⟩
def d_sheets_by : He.DefD := ⟨("sheets_by", none), "sheets_by", "sheets_by", defArgs s_sheets_by, defBody s_sheets_by, defScope s_sheets_by, [], []⟩
def d_settles : He.DefD := ⟨("settles", none), "settles", "settles", defArgs s_settles, defBody s_settles, defScope s_settles, [], []⟩
def d_is_in : He.DefD := ⟨("is_in", none), "is_in", "is_in", defArgs s_is_in, defBody s_is_in, defScope s_is_in, [], []⟩
def d_settling : He.DefD := ⟨("settling", none), "settling", "settling", defArgs s_settling, defBody s_settling, defScope s_settling, [], []⟩
def d_least_lots : He.DefD := ⟨("least_lots", none), "least_lots", "least_lots", defArgs s_least_lots, defBody s_least_lots, defScope s_least_lots, [], []⟩
def d_greatest_open : He.DefD := ⟨("greatest_open", none), "greatest_open", "greatest_open", defArgs s_greatest_open, defBody s_greatest_open, defScope s_greatest_open, [], []⟩
def d_must_look : He.DefD := ⟨("must_look", none), "must_look", "must_look", defArgs s_must_look, defBody s_must_look, defScope s_must_look, [], []⟩
def d_fewest : He.DefD := ⟨("fewest", none), "fewest", "fewest", defArgs s_fewest, defBody s_fewest, defScope s_fewest, [], []⟩
def d_is_count : He.DefD := ⟨("is_count", none), "is_count", "is_count", defArgs s_is_count, defBody s_is_count, defScope s_is_count, [], []⟩
def d_areas_of : He.DefD := ⟨("areas_of", none), "areas_of", "areas_of", defArgs s_areas_of, defBody s_areas_of, defScope s_areas_of, [], []⟩
def d_law_bag : He.DefD := ⟨("_law_bag", none), "_law_bag", "_law_bag", defArgs s_law_bag, defBody s_law_bag, defScope s_law_bag, [], []⟩
def d_law_take : He.DefD := ⟨("_law_take", none), "_law_take", "_law_take", defArgs s_law_take, defBody s_law_take, defScope s_law_take, [], []⟩
def d_law_one : He.DefD := ⟨("_law_one", none), "_law_one", "_law_one", defArgs s_law_one, defBody s_law_one, defScope s_law_one, [], []⟩
def d_law_alike : He.DefD := ⟨("_law_alike", none), "_law_alike", "_law_alike", defArgs s_law_alike, defBody s_law_alike, defScope s_law_alike, [], []⟩
def d_law_mixed : He.DefD := ⟨("_law_mixed", none), "_law_mixed", "_law_mixed", defArgs s_law_mixed, defBody s_law_mixed, defScope s_law_mixed, [], []⟩
def d_law_takers : He.DefD := ⟨("_law_takers", none), "_law_takers", "_law_takers", defArgs s_law_takers, defBody s_law_takers, defScope s_law_takers, [], []⟩
def d_law_many : He.DefD := ⟨("_law_many", none), "_law_many", "_law_many", defArgs s_law_many, defBody s_law_many, defScope s_law_many, [], []⟩
def d_law_wanted : He.DefD := ⟨("_law_wanted", none), "_law_wanted", "_law_wanted", defArgs s_law_wanted, defBody s_law_wanted, defScope s_law_wanted, [], []⟩
def d_law_sheet : He.DefD := ⟨("_law_sheet", none), "_law_sheet", "_law_sheet", defArgs s_law_sheet, defBody s_law_sheet, defScope s_law_sheet, [], []⟩
def d_law_partings : He.DefD := ⟨("_law_partings", none), "_law_partings", "_law_partings", defArgs s_law_partings, defBody s_law_partings, defScope s_law_partings, [], []⟩
def d_law_outcome : He.DefD := ⟨("_law_outcome", none), "_law_outcome", "_law_outcome", defArgs s_law_outcome, defBody s_law_outcome, defScope s_law_outcome, [], []⟩
def d_law_area : He.DefD := ⟨("_law_area", none), "_law_area", "_law_area", defArgs s_law_area, defBody s_law_area, defScope s_law_area, [], []⟩
def d_law_in : He.DefD := ⟨("_law_in", none), "_law_in", "_law_in", defArgs s_law_in, defBody s_law_in, defScope s_law_in, [], []⟩
def d_law_settles : He.DefD := ⟨("_law_settles", none), "_law_settles", "_law_settles", defArgs s_law_settles, defBody s_law_settles, defScope s_law_settles, [], []⟩
def d_law_less : He.DefD := ⟨("_law_less", none), "_law_less", "_law_less", defArgs s_law_less, defBody s_law_less, defScope s_law_less, [], []⟩
def d_law_moved : He.DefD := ⟨("_law_moved", none), "_law_moved", "_law_moved", defArgs s_law_moved, defBody s_law_moved, defScope s_law_moved, [], []⟩
def d_law_lots_right : He.DefD := ⟨("_law_lots_right", none), "_law_lots_right", "_law_lots_right", defArgs s_law_lots_right, defBody s_law_lots_right, defScope s_law_lots_right, [], []⟩
def d_law : He.DefD := ⟨("law", none), "law", "law", defArgs s_law, defBody s_law, defScope s_law, [], []⟩
def d_Way_init : He.DefD := ⟨("Way", some "__init__"), "__init__", "Way.__init__", defArgs s_Way_init, defBody s_Way_init, defScope s_Way_init, [.non], []⟩
def d_Way_ahead : He.DefD := ⟨("Way", some "ahead"), "ahead", "Way.ahead", defArgs s_Way_ahead, defBody s_Way_ahead, defScope s_Way_ahead, [], []⟩
def d_Way_outcome : He.DefD := ⟨("Way", some "outcome"), "outcome", "Way.outcome", defArgs s_Way_outcome, defBody s_Way_outcome, defScope s_Way_outcome, [], []⟩
def d_Lists_init : He.DefD := ⟨("Lists", some "__init__"), "__init__", "Lists.__init__", defArgs s_Lists_init, defBody s_Lists_init, defScope s_Lists_init, [.non, .non, .int 1], []⟩
def d_Lists_least_votes : He.DefD := ⟨("Lists", some "least_votes"), "least_votes", "Lists.least_votes", defArgs s_Lists_least_votes, defBody s_Lists_least_votes, defScope s_Lists_least_votes, [], []⟩
def d_Lists_mark : He.DefD := ⟨("Lists", some "mark"), "mark", "Lists.mark", defArgs s_Lists_mark, defBody s_Lists_mark, defScope s_Lists_mark, [], []⟩
def d_Lists_counted : He.DefD := ⟨("Lists", some "counted"), "counted", "Lists.counted", defArgs s_Lists_counted, defBody s_Lists_counted, defScope s_Lists_counted, [], []⟩
def d_Lists_told_by : He.DefD := ⟨("Lists", some "told_by"), "told_by", "Lists.told_by", defArgs s_Lists_told_by, defBody s_Lists_told_by, defScope s_Lists_told_by, [], []⟩
def d_House_init : He.DefD := ⟨("House", some "__init__"), "__init__", "House.__init__", defArgs s_House_init, defBody s_House_init, defScope s_House_init, [], []⟩
def d_House_had : He.DefD := ⟨("House", some "had"), "had", "House.had", defArgs s_House_had, defBody s_House_had, defScope s_House_had, [], []⟩
def d_House_evening_paper : He.DefD := ⟨("House", some "evening_paper"), "evening_paper", "House.evening_paper", defArgs s_House_evening_paper, defBody s_House_evening_paper, defScope s_House_evening_paper, [], []⟩
def d_House_of_evening : He.DefD := ⟨("House", some "of_evening"), "of_evening", "House.of_evening", defArgs s_House_of_evening, defBody s_House_of_evening, defScope s_House_of_evening, [], []⟩
def d_House_in_all : He.DefD := ⟨("House", some "in_all"), "in_all", "House.in_all", defArgs s_House_in_all, defBody s_House_in_all, defScope s_House_in_all, [], []⟩
def d_Margin_init : He.DefD := ⟨("Margin", some "__init__"), "__init__", "Margin.__init__", defArgs s_Margin_init, defBody s_Margin_init, defScope s_Margin_init, [], []⟩
def d_ListsMargin_held : He.DefD := ⟨("ListsMargin", some "held"), "held", "ListsMargin.held", defArgs s_ListsMargin_held, defBody s_ListsMargin_held, defScope s_ListsMargin_held, [], []⟩
def d_LandMargin_init : He.DefD := ⟨("LandMargin", some "__init__"), "__init__", "LandMargin.__init__", defArgs s_LandMargin_init, defBody s_LandMargin_init, defScope s_LandMargin_init, [], []⟩
def d_LandMargin_even_held : He.DefD := ⟨("LandMargin", some "even_held"), "even_held", "LandMargin.even_held", defArgs s_LandMargin_even_held, defBody s_LandMargin_even_held, defScope s_LandMargin_even_held, [], []⟩
def d_LandMargin_held : He.DefD := ⟨("LandMargin", some "held"), "held", "LandMargin.held", defArgs s_LandMargin_held, defBody s_LandMargin_held, defScope s_LandMargin_held, [], []⟩
def d_Land_init : He.DefD := ⟨("Land", some "__init__"), "__init__", "Land.__init__", defArgs s_Land_init, defBody s_Land_init, defScope s_Land_init, [.int 0, .non, .non, .int 1], []⟩
def d_Land_ahead : He.DefD := ⟨("Land", some "ahead"), "ahead", "Land.ahead", defArgs s_Land_ahead, defBody s_Land_ahead, defScope s_Land_ahead, [], []⟩
def d_Land_votes : He.DefD := ⟨("Land", some "votes"), "votes", "Land.votes", defArgs s_Land_votes, defBody s_Land_votes, defScope s_Land_votes, [], []⟩
def d_Land_least_votes : He.DefD := ⟨("Land", some "least_votes"), "least_votes", "Land.least_votes", defArgs s_Land_least_votes, defBody s_Land_least_votes, defScope s_Land_least_votes, [], []⟩
def d_Land_mark : He.DefD := ⟨("Land", some "mark"), "mark", "Land.mark", defArgs s_Land_mark, defBody s_Land_mark, defScope s_Land_mark, [], []⟩
def fn0 : List He.DefD := [d_is_whole, d_divisor, d_up, d_fraction, d_under, d_holds, d_members, d_size, d_put_together, d_joined, d_ballots_in, d_lots_of, d_vote_of, d_votes_of, d_hurdle_of, d_marks_of, d_goes_ahead, d_seat_due, d_rounds_of, d_evening, d_evened_by, d_ballots_of, d_passes_by, d_margin_for, d_unseen_in]
def fn1 : List He.DefD := [d_sheets_by, d_settles, d_is_in, d_settling, d_least_lots, d_greatest_open, d_must_look, d_fewest, d_is_count, d_areas_of, d_law_bag, d_law_take, d_law_one, d_law_alike, d_law_mixed, d_law_takers, d_law_many, d_law_wanted, d_law_sheet, d_law_partings, d_law_outcome, d_law_area, d_law_in, d_law_settles, d_law_less]
def fn2 : List He.DefD := [d_law_moved, d_law_lots_right, d_law, d_Way_init, d_Way_ahead, d_Way_outcome, d_Lists_init, d_Lists_least_votes, d_Lists_mark, d_Lists_counted, d_Lists_told_by, d_House_init, d_House_had, d_House_evening_paper, d_House_of_evening, d_House_in_all, d_Margin_init, d_ListsMargin_held, d_LandMargin_init, d_LandMargin_even_held, d_LandMargin_held, d_Land_init, d_Land_ahead, d_Land_votes, d_Land_least_votes]
def fn3 : List He.DefD := [d_Land_mark]
def fn : List He.DefD := fn0 ++ fn1 ++ fn2 ++ fn3
/-! ### facts of the head -/
inductive Fx where
  | he (f : He.Fa)
  | scls (x : Str)
  | slot (x f : Str) (i : Nat)
  | meth (x m d : Str)
  | cfn (x m : Str)
  | kt (x : Str) (cs : List Str) (b : Bool)
  | k1 (x c : Str) (b : Bool)
  | ins (x : Str)
def eqB {α : Type} [DecidableEq α] (a b : α) : Bool := decide (a = b)
theorem eqB_ok {α : Type} [DecidableEq α] {a b : α} (h : eqB a b = true) : a = b := of_decide_eq_true h
def cvOk (K : PySem.W.Frag) (C : Addr) (m : Str) (f : Addr) : Bool := match PySem.W.findCls K (.ref C) (.type "type") m with
  | some (.val (.ref a)) => decide (a = f)
  | _ => false
def Fx.ok (K : PySem.W.Frag) : Fx → Bool
  | .he f => f.ok K
  | .scls x => PySem.W.plainGet K (He.ga K x) Str.empty && (PySem.W.isClsIn K (He.ga K x) && (PySem.W.plainOver K (He.ga K x) && He.eqO (PySem.W.findIn K (.ref (He.ga K x)) "__setattr__") (some (some (.builtin "object.__setattr__")))))
  | .slot x f i => He.eqO (PySem.W.findIn K (.ref (He.ga K x)) f) (some (some (.ref (He.ma K (He.ga K x) f)))) && (He.eqO (PySem.W.specialIn K (.ref (He.ma K (He.ga K x) f)) "__get__") (some (some (.builtin "member_descriptor.__get__"))) &&
      (eqB (PySem.W.takesIn K (.ref (He.ma K (He.ga K x) f))) (some true) && (eqB (PySem.W.typeIn K (.ref (He.ma K (He.ga K x) f))) (some (.type "member_descriptor")) && (eqB (PySem.W.slotIn K (He.ma K (He.ga K x) f) (He.ga K x)) (some i) && Nat.blt i 1000))))
  | .meth x m d => He.eqO (PySem.W.findIn K (.ref (He.ga K x)) m) (some (some (.ref (He.ma K (He.ga K d) m)))) && (PySem.W.isFn K (.ref (He.ma K (He.ga K d) m)) && PySem.W.keepIn K (.ref (He.ma K (He.ga K d) m)))
  | .cfn x m => PySem.W.readsIn K (He.ga K x) (.type "type") && (He.eqO (PySem.W.specialIn K (.ref (He.ga K x)) "__getattribute__") (some (some (.builtin "type.__getattribute__"))) && cvOk K (He.ga K x) m (He.ma K (He.ga K x) m))
  | .kt x cs b => eqB (PySem.W.kitAny K (.ref (He.ga K x)) (cs.map fun c => .ref (He.ga K c))) (some b)
  | .k1 x c b => eqB (PySem.W.kitOne K (.ref (He.ga K x)) (.ref (He.ga K c))) (some b)
  | .ins x => He.eqO (PySem.W.findIn K (.ref (He.ga K x)) "__class__") (some (some (.builtin "object.__class__"))) && (He.eqO (PySem.W.specialIn K (.builtin "object.__class__") "__get__") (some (some (.builtin "getset_descriptor.__get__"))) &&
      (eqB (PySem.W.takesIn K (.builtin "object.__class__")) (some true) && eqB (PySem.W.mroIn K (He.ga K x) (.type "object")) (some true)))
def fx0 : List Fx := [.he (.glo "is_whole"), .he (.glo "divisor"), .he (.glo "up"), .he (.glo "fraction"), .he (.glo "under"), .he (.glo "holds"), .he (.glo "members"), .he (.glo "size"), .he (.glo "put_together"), .he (.glo "joined"), .he (.glo "ballots_in"), .he (.glo "lots_of"), .he (.glo "vote_of"), .he (.glo "votes_of"), .he (.glo "hurdle_of"), .he (.glo "marks_of"), .he (.glo "goes_ahead"), .he (.glo "seat_due"), .he (.glo "rounds_of"), .he (.glo "evening"), .he (.glo "evened_by"), .he (.glo "ballots_of"), .he (.glo "passes_by"), .he (.glo "margin_for"), .he (.glo "unseen_in")]
def fx1 : List Fx := [.he (.glo "sheets_by"), .he (.glo "settles"), .he (.glo "is_in"), .he (.glo "settling"), .he (.glo "least_lots"), .he (.glo "greatest_open"), .he (.glo "must_look"), .he (.glo "fewest"), .he (.glo "is_count"), .he (.glo "areas_of"), .he (.glo "_law_bag"), .he (.glo "_law_take"), .he (.glo "_law_one"), .he (.glo "_law_alike"), .he (.glo "_law_mixed"), .he (.glo "_law_takers"), .he (.glo "_law_many"), .he (.glo "_law_wanted"), .he (.glo "_law_sheet"), .he (.glo "_law_partings"), .he (.glo "_law_outcome"), .he (.glo "_law_area"), .he (.glo "_law_in"), .he (.glo "_law_settles"), .he (.glo "_law_less")]
def fx2 : List Fx := [.he (.glo "_law_moved"), .he (.glo "_law_lots_right"), .he (.glo "law"), .he (.glo "Way"), .he (.glo "Lists"), .he (.glo "Pairs"), .he (.glo "House"), .he (.glo "Margin"), .he (.glo "ListsMargin"), .he (.glo "LandMargin"), .he (.glo "Land"), .he (.glo "NoWay"), .he (.free "isinstance"), .he (.free "int"), .he (.free "bool"), .he (.free "abs"), .he (.free "divmod"), .he (.free "sum"), .he (.free "len"), .he (.free "list"), .he (.free "tuple"), .he (.free "range"), .he (.free "sorted"), .he (.free "zip"), .he (.free "enumerate")]
def fx3 : List Fx := [.he (.free "any"), .he (.free "all"), .he (.free "max"), .he (.free "repr"), .he (.int "MOST_HANDS" 12), .he (.int "MOST_SEATS" 60), .he (.int "MOST_STEP_lists" 9), .he (.int "MOST_AREAS" 6), .he (.int "MOST_EVENED" 60), .he (.int "MOST_STEP_lands" 9), .he (.cls "Lists"), .he (.noat "Lists" "hands"), .he (.noat "Lists" "seats"), .he (.noat "Lists" "lots"), .he (.noat "Lists" "hurdle"), .he (.noat "Lists" "step"), .he (.cls "ListsMargin"), .he (.noat "ListsMargin" "way"), .he (.cls "LandMargin"), .he (.noat "LandMargin" "land"), .he (.noat "LandMargin" "margins"), .scls "House", .slot "House" "its_areas" 0, .slot "House" "its_land" 1, .slot "House" "its_sheets" 2]
def fx4 : List Fx := [.scls "Land", .slot "Land" "areas" 0, .slot "Land" "evened" 1, .slot "Land" "hands" 2, .slot "Land" "hurdle" 3, .slot "Land" "lots" 4, .slot "Land" "step" 5, .meth "Lists" "__init__" "Lists", .meth "Lists" "ahead" "Way", .meth "Lists" "outcome" "Way", .meth "Lists" "least_votes" "Lists", .meth "Lists" "mark" "Lists", .meth "Lists" "counted" "Lists", .meth "Lists" "told_by" "Lists", .he (.mkr "Lists"), .meth "House" "__init__" "House", .meth "House" "had" "House", .meth "House" "evening_paper" "House", .meth "House" "of_evening" "House", .meth "House" "in_all" "House", .he (.mkr "House"), .meth "ListsMargin" "__init__" "Margin", .meth "ListsMargin" "held" "ListsMargin", .he (.mkr "ListsMargin"), .meth "LandMargin" "__init__" "LandMargin"]
def fx5 : List Fx := [.meth "LandMargin" "even_held" "LandMargin", .meth "LandMargin" "held" "LandMargin", .he (.mkr "LandMargin"), .meth "Land" "__init__" "Land", .meth "Land" "ahead" "Land", .meth "Land" "votes" "Land", .meth "Land" "least_votes" "Land", .meth "Land" "mark" "Land", .he (.mkr "Land"), .cfn "Way" "__init__", .kt "Lists" ["Pairs", "Lists"] true, .k1 "Lists" "Lists" true, .ins "Lists"]
def fx : List Fx := fx0 ++ fx1 ++ fx2 ++ fx3 ++ fx4 ++ fx5
def loose0 : List PySem.Str := ["_wall", "PollError", "NoNumber", "NoChange", "NoWay", "NoLand", "is_whole", "divisor", "down", "up", "fraction", "under", "all_of", "holds", "with_one", "without", "members", "size", "put_together", "joined", "ballots_in", "number_of", "changed", "MOST_HANDS", "MOST_SEATS", "lots_of", "Way", "MOST_STEP_lists"]
def loose1 : List PySem.Str := ["vote_of", "votes_of", "hurdle_of", "marks_of", "goes_ahead", "seat_due", "Lists", "rounds_of", "evening", "evened_by", "House", "pass_need", "pass_need_evenmargin", "ballots_of", "even_cases", "least_of", "free_for", "turn_of", "shift", "Margin", "pass_need_listmargin", "cases_of", "least_case", "change_by", "passes_by", "ListsMargin", "ranks_of", "places_of"]
def loose2 : List PySem.Str := ["overs", "leads_of", "strength", "way_by", "cut_by", "way_between", "cut_between", "need_of", "couples", "worth_of_way", "worth_of_cut", "shows_need", "PairsMargin", "margin_for", "even_change", "LandMargin", "unseen_in", "sheets_by", "settles", "is_in", "settling", "least_lots", "greatest_open", "must_look", "fewest", "unbeaten_of", "picks_due", "Pairs"]
def loose3 : List PySem.Str := ["is_count", "MOST_AREAS", "MOST_EVENED", "MOST_STEP_lands", "areas_of", "Land", "_law_bag", "_law_take", "_law_one", "_law_alike", "_law_mixed", "_law_takers", "_law_many", "_law_wanted", "_law_sheet", "_law_partings", "_law_outcome", "_law_area", "_law_in", "_law_settles", "_law_less", "_law_moved", "_law_lots_right"]
def loose : List PySem.Str := loose0 ++ loose1 ++ loose2 ++ loose3
def need0 : List PySem.Str := ["is_whole", "divisor", "up", "fraction", "under", "holds", "members", "size", "put_together", "joined", "ballots_in", "lots_of", "vote_of", "votes_of", "hurdle_of", "marks_of", "goes_ahead", "seat_due", "rounds_of", "evening", "evened_by", "ballots_of", "passes_by", "margin_for", "unseen_in", "sheets_by", "settles", "is_in"]
def need1 : List PySem.Str := ["settling", "least_lots", "greatest_open", "must_look", "fewest", "is_count", "areas_of", "_law_bag", "_law_take", "_law_one", "_law_alike", "_law_mixed", "_law_takers", "_law_many", "_law_wanted", "_law_sheet", "_law_partings", "_law_outcome", "_law_area", "_law_in", "_law_settles", "_law_less", "_law_moved", "_law_lots_right", "law", "Way", "Lists", "Pairs"]
def need2 : List PySem.Str := ["House", "Margin", "ListsMargin", "LandMargin", "Land", "NoWay", "MOST_HANDS", "MOST_SEATS", "MOST_STEP_lists", "MOST_AREAS", "MOST_EVENED", "MOST_STEP_lands"]
def need : List PySem.Str := need0 ++ need1 ++ need2
section
variable {K : PySem.W.Frag}
theorem scls_ok {x : Str} (c : (Fx.scls x).ok K = true) : SlX.SCls K (He.ga K x) := by
  obtain ⟨h1, c⟩ := He.ba c
  obtain ⟨h2, c⟩ := He.ba c
  obtain ⟨h3, h4⟩ := He.ba c
  exact ⟨h1, h2, h3, He.eqO_ok h4⟩
theorem slot_ok {x f : Str} {i : Nat} (c : (Fx.slot x f i).ok K = true) : SlX.Slot1 K (He.ga K x) f (He.ma K (He.ga K x) f) i := by
  obtain ⟨h1, c⟩ := He.ba c
  obtain ⟨h2, c⟩ := He.ba c
  obtain ⟨h3, c⟩ := He.ba c
  obtain ⟨h4, c⟩ := He.ba c
  obtain ⟨h5, h6⟩ := He.ba c
  exact ⟨He.eqO_ok h1, He.eqO_ok h2, eqB_ok h3, eqB_ok h4, eqB_ok h5, Nat.le_of_ble_eq_true h6⟩
theorem meth_ok {x m d : Str} (c : (Fx.meth x m d).ok K = true) : Meth K (He.ga K x) m (He.ma K (He.ga K d) m) := by
  obtain ⟨h1, c⟩ := He.ba c
  obtain ⟨h2, h3⟩ := He.ba c
  exact ⟨He.eqO_ok h1, h2, h3⟩
theorem cfn_ok {x m : Str} (c : (Fx.cfn x m).ok K = true) : ClX.CRead K (He.ga K x) (.type "type") ∧ ClX.CVal K (He.ga K x) (.type "type") m (.ref (He.ma K (He.ga K x) m)) (.ref (He.ma K (He.ga K x) m)) := by
  obtain ⟨h1, c⟩ := He.ba c
  obtain ⟨h2, h3⟩ := He.ba c
  refine ⟨⟨h1, He.eqO_ok h2⟩, ⟨?_, rfl⟩⟩
  unfold cvOk at h3
  split at h3
  · rename_i a e
    rw [e, of_decide_eq_true h3]
  · cases h3
theorem kt_ok {x : Str} {cs : List Str} {b : Bool} (c : (Fx.kt x cs b).ok K = true) : PySem.W.kitAny K (.ref (He.ga K x)) (cs.map fun c => .ref (He.ga K c)) = some b := eqB_ok c
theorem k1_ok {x y : Str} {b : Bool} (c : (Fx.k1 x y b).ok K = true) : PySem.W.kitOne K (.ref (He.ga K x)) (.ref (He.ga K y)) = some b := eqB_ok c
structure InsK (K : PySem.W.Frag) (C : Addr) : Prop where
  ha : PySem.W.findIn K (.ref C) "__class__" = some (some (.builtin "object.__class__"))
  hn : PySem.W.specialIn K (.builtin "object.__class__") "__get__" = some (some (.builtin "getset_descriptor.__get__"))
  htk : PySem.W.takesIn K (.builtin "object.__class__") = some true
  hm : PySem.W.mroIn K C (.type "object") = some true
theorem ins_ok {x : Str} (c : (Fx.ins x).ok K = true) : InsK K (He.ga K x) := by
  obtain ⟨h1, c⟩ := He.ba c
  obtain ⟨h2, c⟩ := He.ba c
  obtain ⟨h3, h4⟩ := He.ba c
  exact ⟨He.eqO_ok h1, He.eqO_ok h2, eqB_ok h3, eqB_ok h4⟩
end
/-! ### the part of the heap that the facts look at -/
def refsM (o : Obj) : List Addr := match o.data with
  | .dict es _ => es.toList.flatMap fun e => He.refV e.val
  | .func fd => He.refV fd.code ++ He.refV fd.defaults
  | .cls cd => cd.ns :: cd.mro.flatMap He.refV
  | _ => []
def moreM (g : Addr → Option Obj) (as : List Addr) : List Addr := as.flatMap fun a => match g a with
  | some o => refsM o
  | none => []
def isClsO (g : Addr → Option Obj) (a : Addr) : Bool := match g a with
  | some ⟨_, _, .cls _, _⟩ => true
  | _ => false
def asM (g : Addr → Option Obj) : List Addr :=
  let K0 := He.frG g [mainGlobals]
  let a1 := need.map (He.ga K0)
  let a2 := moreM g a1
  let a3 := moreM g (moreM g (a1.filter (isClsO g)))
  let a4 := moreM g a3
  mainGlobals :: cStatics :: (a1 ++ a2 ++ a3 ++ a4)
/-! ### the Hook -/
abbrev AlM : Type := Bool × List He.FnW
def obsM (K : PySem.W.Frag) : AlM := ((fx.all fun f => f.ok K) && fn.all fun d => d.ok K, fn.map fun d => He.fnW K d.at_)
def valM : AlM := (true, fn.map He.DefD.val)
def SaysM (K : PySem.W.Frag) : Prop := obsM K = valM
def obsG (g : Addr → Option Obj) : AlM := obsM (He.frG g (asM g))
def hk : PySem.W.Hook where
  α := AlM
  obs := fun s => obsG s.heap.get?
  val := fun _ => valM
  says := fun _ h => ∃ K : PySem.W.Frag, K.In h ∧ SaysM K
  of := fun _ _ e => ⟨_, He.frG_in, e⟩
  keeps := fun _ _ _ ⟨K, hK, c⟩ k => ⟨K, PySem.W.Frag.In.keeps hK k, c⟩
theorem obsG_eq {g : Addr → Option Obj} {s : Shared} (h : ∀ a, g a = s.heap.get? a) : obsG g = hk.obs s := by
  have e : g = s.heap.get? := funext h
  rw [e] <;> rfl
/-! ### what the walk knows of the text -/
structure Txt (K : PySem.W.Frag) (mg : Str → Option Value) : Prop where
  fact : ∀ (i : Nat) {f : Fx}, fx[i]? = some f → f.ok K = true
  glo : ∀ (i : Nat) {x : Str}, fx[i]? = some (.he (.glo x)) → mg x = some (.ref (He.ga K x))
  free : ∀ (i : Nat) {x : Str}, fx[i]? = some (.he (.free x)) → mg x = none
  int : ∀ (i : Nat) {x : Str} {n : Int}, fx[i]? = some (.he (.int x n)) → ∃ t, mg x = some (.int n t)
  defs : ∀ (i : Nat) {d : He.DefD}, fn[i]? = some d → ∃ fd, FunD K d.name d.qual d.params d.body d.scope (d.dvs K) (d.kws K) (He.fAd K d.at_) fd
theorem txt_of {K : PySem.W.Frag} {h : Heap} {mg : Str → Option Value} (X : K.In h) (G : h.Ns mainGlobals mg) (c : SaysM K) : Txt K mg := by
  have c0 := He.ba (show ((fx.all fun f => f.ok K) && fn.all fun d => d.ok K) = true from congrArg (fun z : AlM => z.1) c)
  have fact : ∀ (i : Nat) {f : Fx}, fx[i]? = some f → f.ok K = true := fun i f h => List.all_eq_true.mp c0.1 f (List.mem_of_getElem? h)
  refine ⟨fact, fun i x e => He.glo_ok X G (fact i e), fun i x e => He.free_ok X G (fact i e), fun i x n e => He.int_ok X G (fact i e), fun i d hd => ?_⟩
  have e : fn.map (fun d => He.fnW K d.at_) = fn.map He.DefD.val := congrArg (fun z : AlM => z.2) c
  have e2 : (fn.map fun d => He.fnW K d.at_)[i]? = (fn.map He.DefD.val)[i]? := by rw [e]
  rw [List.getElem?_map, List.getElem?_map, hd] at e2
  exact He.DefD.funD (Option.some.inj e2) (List.all_eq_true.mp c0.2 d (List.mem_of_getElem? hd))
/-- a def with defaults, all of whose parameters are written -/
theorem bindsAll {K : PySem.W.Frag} {x qual : Str} {params : Arguments} {body : List Stmt} {scope : Scope} {dvs : List V} {f : Addr} {fd : FuncData} {ps : List Str} (n : Nat) (hd : dvs ≠ []) (hn : n = ps.length) (F : FunD K x qual params body scope dvs [] f fd)
    (h : ∀ (T : Addr) (kV doc pm : Value) (an : Option Addr) (cdv ct : Value) (us its : List Value), us.length = n → its.length = dvs.length →
      ∃ k, bindArgs (PySem.W.fnOf x qual params body scope (.ref T) kV doc pm an cdv ct) ⟨us, []⟩ = seqItems? (.ref T) >>= k ∧ k (some its.toArray) = pure (ps.zip us)) : Binds K fd ps [] := by
  obtain ⟨ds, r, b⟩ := F.binds1 (ps := ps) n dvs.length hd (by omega) fun T kV doc pm an cdv ct us its h1 h2 => by
    obtain ⟨k, e1, e2⟩ := h T kV doc pm an cdv ct us its h1 h2
    refine ⟨k, e1, ?_⟩
    rw [show its.drop dvs.length = [] from List.drop_eq_nil_of_le (show its.length ≤ dvs.length by omega), List.append_nil]
    exact e2
  rw [List.drop_length] at r
  cases r
  exact b
section
variable {K : PySem.W.Frag} {mg : Str → Option Value}
theorem Txt.g_is_whole (T : Txt K mg) : mg "is_whole" = some (.ref (He.ga K "is_whole")) := T.glo 0 rfl
theorem Txt.g_divisor (T : Txt K mg) : mg "divisor" = some (.ref (He.ga K "divisor")) := T.glo 1 rfl
theorem Txt.g_up (T : Txt K mg) : mg "up" = some (.ref (He.ga K "up")) := T.glo 2 rfl
theorem Txt.g_fraction (T : Txt K mg) : mg "fraction" = some (.ref (He.ga K "fraction")) := T.glo 3 rfl
theorem Txt.g_under (T : Txt K mg) : mg "under" = some (.ref (He.ga K "under")) := T.glo 4 rfl
theorem Txt.g_holds (T : Txt K mg) : mg "holds" = some (.ref (He.ga K "holds")) := T.glo 5 rfl
theorem Txt.g_members (T : Txt K mg) : mg "members" = some (.ref (He.ga K "members")) := T.glo 6 rfl
theorem Txt.g_size (T : Txt K mg) : mg "size" = some (.ref (He.ga K "size")) := T.glo 7 rfl
theorem Txt.g_put_together (T : Txt K mg) : mg "put_together" = some (.ref (He.ga K "put_together")) := T.glo 8 rfl
theorem Txt.g_joined (T : Txt K mg) : mg "joined" = some (.ref (He.ga K "joined")) := T.glo 9 rfl
theorem Txt.g_ballots_in (T : Txt K mg) : mg "ballots_in" = some (.ref (He.ga K "ballots_in")) := T.glo 10 rfl
theorem Txt.g_lots_of (T : Txt K mg) : mg "lots_of" = some (.ref (He.ga K "lots_of")) := T.glo 11 rfl
theorem Txt.g_vote_of (T : Txt K mg) : mg "vote_of" = some (.ref (He.ga K "vote_of")) := T.glo 12 rfl
theorem Txt.g_votes_of (T : Txt K mg) : mg "votes_of" = some (.ref (He.ga K "votes_of")) := T.glo 13 rfl
theorem Txt.g_hurdle_of (T : Txt K mg) : mg "hurdle_of" = some (.ref (He.ga K "hurdle_of")) := T.glo 14 rfl
theorem Txt.g_marks_of (T : Txt K mg) : mg "marks_of" = some (.ref (He.ga K "marks_of")) := T.glo 15 rfl
theorem Txt.g_goes_ahead (T : Txt K mg) : mg "goes_ahead" = some (.ref (He.ga K "goes_ahead")) := T.glo 16 rfl
theorem Txt.g_seat_due (T : Txt K mg) : mg "seat_due" = some (.ref (He.ga K "seat_due")) := T.glo 17 rfl
theorem Txt.g_rounds_of (T : Txt K mg) : mg "rounds_of" = some (.ref (He.ga K "rounds_of")) := T.glo 18 rfl
theorem Txt.g_evening (T : Txt K mg) : mg "evening" = some (.ref (He.ga K "evening")) := T.glo 19 rfl
theorem Txt.g_evened_by (T : Txt K mg) : mg "evened_by" = some (.ref (He.ga K "evened_by")) := T.glo 20 rfl
theorem Txt.g_ballots_of (T : Txt K mg) : mg "ballots_of" = some (.ref (He.ga K "ballots_of")) := T.glo 21 rfl
theorem Txt.g_passes_by (T : Txt K mg) : mg "passes_by" = some (.ref (He.ga K "passes_by")) := T.glo 22 rfl
theorem Txt.g_margin_for (T : Txt K mg) : mg "margin_for" = some (.ref (He.ga K "margin_for")) := T.glo 23 rfl
theorem Txt.g_unseen_in (T : Txt K mg) : mg "unseen_in" = some (.ref (He.ga K "unseen_in")) := T.glo 24 rfl
theorem Txt.g_sheets_by (T : Txt K mg) : mg "sheets_by" = some (.ref (He.ga K "sheets_by")) := T.glo 25 rfl
theorem Txt.g_settles (T : Txt K mg) : mg "settles" = some (.ref (He.ga K "settles")) := T.glo 26 rfl
theorem Txt.g_is_in (T : Txt K mg) : mg "is_in" = some (.ref (He.ga K "is_in")) := T.glo 27 rfl
theorem Txt.g_settling (T : Txt K mg) : mg "settling" = some (.ref (He.ga K "settling")) := T.glo 28 rfl
theorem Txt.g_least_lots (T : Txt K mg) : mg "least_lots" = some (.ref (He.ga K "least_lots")) := T.glo 29 rfl
theorem Txt.g_greatest_open (T : Txt K mg) : mg "greatest_open" = some (.ref (He.ga K "greatest_open")) := T.glo 30 rfl
theorem Txt.g_must_look (T : Txt K mg) : mg "must_look" = some (.ref (He.ga K "must_look")) := T.glo 31 rfl
theorem Txt.g_fewest (T : Txt K mg) : mg "fewest" = some (.ref (He.ga K "fewest")) := T.glo 32 rfl
theorem Txt.g_is_count (T : Txt K mg) : mg "is_count" = some (.ref (He.ga K "is_count")) := T.glo 33 rfl
theorem Txt.g_areas_of (T : Txt K mg) : mg "areas_of" = some (.ref (He.ga K "areas_of")) := T.glo 34 rfl
theorem Txt.g_law_bag (T : Txt K mg) : mg "_law_bag" = some (.ref (He.ga K "_law_bag")) := T.glo 35 rfl
theorem Txt.g_law_take (T : Txt K mg) : mg "_law_take" = some (.ref (He.ga K "_law_take")) := T.glo 36 rfl
theorem Txt.g_law_one (T : Txt K mg) : mg "_law_one" = some (.ref (He.ga K "_law_one")) := T.glo 37 rfl
theorem Txt.g_law_alike (T : Txt K mg) : mg "_law_alike" = some (.ref (He.ga K "_law_alike")) := T.glo 38 rfl
theorem Txt.g_law_mixed (T : Txt K mg) : mg "_law_mixed" = some (.ref (He.ga K "_law_mixed")) := T.glo 39 rfl
theorem Txt.g_law_takers (T : Txt K mg) : mg "_law_takers" = some (.ref (He.ga K "_law_takers")) := T.glo 40 rfl
theorem Txt.g_law_many (T : Txt K mg) : mg "_law_many" = some (.ref (He.ga K "_law_many")) := T.glo 41 rfl
theorem Txt.g_law_wanted (T : Txt K mg) : mg "_law_wanted" = some (.ref (He.ga K "_law_wanted")) := T.glo 42 rfl
theorem Txt.g_law_sheet (T : Txt K mg) : mg "_law_sheet" = some (.ref (He.ga K "_law_sheet")) := T.glo 43 rfl
theorem Txt.g_law_partings (T : Txt K mg) : mg "_law_partings" = some (.ref (He.ga K "_law_partings")) := T.glo 44 rfl
theorem Txt.g_law_outcome (T : Txt K mg) : mg "_law_outcome" = some (.ref (He.ga K "_law_outcome")) := T.glo 45 rfl
theorem Txt.g_law_area (T : Txt K mg) : mg "_law_area" = some (.ref (He.ga K "_law_area")) := T.glo 46 rfl
theorem Txt.g_law_in (T : Txt K mg) : mg "_law_in" = some (.ref (He.ga K "_law_in")) := T.glo 47 rfl
theorem Txt.g_law_settles (T : Txt K mg) : mg "_law_settles" = some (.ref (He.ga K "_law_settles")) := T.glo 48 rfl
theorem Txt.g_law_less (T : Txt K mg) : mg "_law_less" = some (.ref (He.ga K "_law_less")) := T.glo 49 rfl
theorem Txt.g_law_moved (T : Txt K mg) : mg "_law_moved" = some (.ref (He.ga K "_law_moved")) := T.glo 50 rfl
theorem Txt.g_law_lots_right (T : Txt K mg) : mg "_law_lots_right" = some (.ref (He.ga K "_law_lots_right")) := T.glo 51 rfl
theorem Txt.g_law (T : Txt K mg) : mg "law" = some (.ref (He.ga K "law")) := T.glo 52 rfl
theorem Txt.g_Way (T : Txt K mg) : mg "Way" = some (.ref (He.ga K "Way")) := T.glo 53 rfl
theorem Txt.g_Lists (T : Txt K mg) : mg "Lists" = some (.ref (He.ga K "Lists")) := T.glo 54 rfl
theorem Txt.g_Pairs (T : Txt K mg) : mg "Pairs" = some (.ref (He.ga K "Pairs")) := T.glo 55 rfl
theorem Txt.g_House (T : Txt K mg) : mg "House" = some (.ref (He.ga K "House")) := T.glo 56 rfl
theorem Txt.g_Margin (T : Txt K mg) : mg "Margin" = some (.ref (He.ga K "Margin")) := T.glo 57 rfl
theorem Txt.g_ListsMargin (T : Txt K mg) : mg "ListsMargin" = some (.ref (He.ga K "ListsMargin")) := T.glo 58 rfl
theorem Txt.g_LandMargin (T : Txt K mg) : mg "LandMargin" = some (.ref (He.ga K "LandMargin")) := T.glo 59 rfl
theorem Txt.g_Land (T : Txt K mg) : mg "Land" = some (.ref (He.ga K "Land")) := T.glo 60 rfl
theorem Txt.g_NoWay (T : Txt K mg) : mg "NoWay" = some (.ref (He.ga K "NoWay")) := T.glo 61 rfl
theorem Txt.f_isinstance (T : Txt K mg) : mg "isinstance" = none := T.free 62 rfl
theorem Txt.f_int (T : Txt K mg) : mg "int" = none := T.free 63 rfl
theorem Txt.f_bool (T : Txt K mg) : mg "bool" = none := T.free 64 rfl
theorem Txt.f_abs (T : Txt K mg) : mg "abs" = none := T.free 65 rfl
theorem Txt.f_divmod (T : Txt K mg) : mg "divmod" = none := T.free 66 rfl
theorem Txt.f_sum (T : Txt K mg) : mg "sum" = none := T.free 67 rfl
theorem Txt.f_len (T : Txt K mg) : mg "len" = none := T.free 68 rfl
theorem Txt.f_list (T : Txt K mg) : mg "list" = none := T.free 69 rfl
theorem Txt.f_tuple (T : Txt K mg) : mg "tuple" = none := T.free 70 rfl
theorem Txt.f_range (T : Txt K mg) : mg "range" = none := T.free 71 rfl
theorem Txt.f_sorted (T : Txt K mg) : mg "sorted" = none := T.free 72 rfl
theorem Txt.f_zip (T : Txt K mg) : mg "zip" = none := T.free 73 rfl
theorem Txt.f_enumerate (T : Txt K mg) : mg "enumerate" = none := T.free 74 rfl
theorem Txt.f_any (T : Txt K mg) : mg "any" = none := T.free 75 rfl
theorem Txt.f_all (T : Txt K mg) : mg "all" = none := T.free 76 rfl
theorem Txt.f_max (T : Txt K mg) : mg "max" = none := T.free 77 rfl
theorem Txt.f_repr (T : Txt K mg) : mg "repr" = none := T.free 78 rfl
theorem Txt.i_MOST_HANDS (T : Txt K mg) : ∃ t, mg "MOST_HANDS" = some (.int 12 t) := T.int 79 rfl
theorem Txt.i_MOST_SEATS (T : Txt K mg) : ∃ t, mg "MOST_SEATS" = some (.int 60 t) := T.int 80 rfl
theorem Txt.i_MOST_STEP_lists (T : Txt K mg) : ∃ t, mg "MOST_STEP_lists" = some (.int 9 t) := T.int 81 rfl
theorem Txt.i_MOST_AREAS (T : Txt K mg) : ∃ t, mg "MOST_AREAS" = some (.int 6 t) := T.int 82 rfl
theorem Txt.i_MOST_EVENED (T : Txt K mg) : ∃ t, mg "MOST_EVENED" = some (.int 60 t) := T.int 83 rfl
theorem Txt.i_MOST_STEP_lands (T : Txt K mg) : ∃ t, mg "MOST_STEP_lands" = some (.int 9 t) := T.int 84 rfl
theorem Txt.c_Lists (T : Txt K mg) : Cls K (He.ga K "Lists") := He.cls_ok (T.fact 85 rfl)
theorem Txt.n_Lists_hands (T : Txt K mg) : NoAttr K (He.ga K "Lists") "hands" := He.noat_ok (T.fact 86 rfl)
theorem Txt.n_Lists_seats (T : Txt K mg) : NoAttr K (He.ga K "Lists") "seats" := He.noat_ok (T.fact 87 rfl)
theorem Txt.n_Lists_lots (T : Txt K mg) : NoAttr K (He.ga K "Lists") "lots" := He.noat_ok (T.fact 88 rfl)
theorem Txt.n_Lists_hurdle (T : Txt K mg) : NoAttr K (He.ga K "Lists") "hurdle" := He.noat_ok (T.fact 89 rfl)
theorem Txt.n_Lists_step (T : Txt K mg) : NoAttr K (He.ga K "Lists") "step" := He.noat_ok (T.fact 90 rfl)
theorem Txt.c_ListsMargin (T : Txt K mg) : Cls K (He.ga K "ListsMargin") := He.cls_ok (T.fact 91 rfl)
theorem Txt.n_ListsMargin_way (T : Txt K mg) : NoAttr K (He.ga K "ListsMargin") "way" := He.noat_ok (T.fact 92 rfl)
theorem Txt.c_LandMargin (T : Txt K mg) : Cls K (He.ga K "LandMargin") := He.cls_ok (T.fact 93 rfl)
theorem Txt.n_LandMargin_land (T : Txt K mg) : NoAttr K (He.ga K "LandMargin") "land" := He.noat_ok (T.fact 94 rfl)
theorem Txt.n_LandMargin_margins (T : Txt K mg) : NoAttr K (He.ga K "LandMargin") "margins" := He.noat_ok (T.fact 95 rfl)
theorem Txt.s_House (T : Txt K mg) : SlX.SCls K (He.ga K "House") := scls_ok (T.fact 96 rfl)
theorem Txt.sl_House_its_land (T : Txt K mg) : SlX.Slot1 K (He.ga K "House") "its_land" (He.ma K (He.ga K "House") "its_land") 1 := slot_ok (T.fact 98 rfl)
theorem Txt.sl_House_its_sheets (T : Txt K mg) : SlX.Slot1 K (He.ga K "House") "its_sheets" (He.ma K (He.ga K "House") "its_sheets") 2 := slot_ok (T.fact 99 rfl)
theorem Txt.sl_House_its_areas (T : Txt K mg) : SlX.Slot1 K (He.ga K "House") "its_areas" (He.ma K (He.ga K "House") "its_areas") 0 := slot_ok (T.fact 97 rfl)
theorem Txt.s_Land (T : Txt K mg) : SlX.SCls K (He.ga K "Land") := scls_ok (T.fact 100 rfl)
theorem Txt.sl_Land_areas (T : Txt K mg) : SlX.Slot1 K (He.ga K "Land") "areas" (He.ma K (He.ga K "Land") "areas") 0 := slot_ok (T.fact 101 rfl)
theorem Txt.sl_Land_hands (T : Txt K mg) : SlX.Slot1 K (He.ga K "Land") "hands" (He.ma K (He.ga K "Land") "hands") 2 := slot_ok (T.fact 103 rfl)
theorem Txt.sl_Land_evened (T : Txt K mg) : SlX.Slot1 K (He.ga K "Land") "evened" (He.ma K (He.ga K "Land") "evened") 1 := slot_ok (T.fact 102 rfl)
theorem Txt.sl_Land_lots (T : Txt K mg) : SlX.Slot1 K (He.ga K "Land") "lots" (He.ma K (He.ga K "Land") "lots") 4 := slot_ok (T.fact 105 rfl)
theorem Txt.sl_Land_hurdle (T : Txt K mg) : SlX.Slot1 K (He.ga K "Land") "hurdle" (He.ma K (He.ga K "Land") "hurdle") 3 := slot_ok (T.fact 104 rfl)
theorem Txt.sl_Land_step (T : Txt K mg) : SlX.Slot1 K (He.ga K "Land") "step" (He.ma K (He.ga K "Land") "step") 5 := slot_ok (T.fact 106 rfl)
theorem Txt.m_Lists_init (T : Txt K mg) : Meth K (He.ga K "Lists") "__init__" (He.ma K (He.ga K "Lists") "__init__") := meth_ok (T.fact 107 rfl)
theorem Txt.m_Lists_ahead (T : Txt K mg) : Meth K (He.ga K "Lists") "ahead" (He.ma K (He.ga K "Way") "ahead") := meth_ok (T.fact 108 rfl)
theorem Txt.m_Lists_outcome (T : Txt K mg) : Meth K (He.ga K "Lists") "outcome" (He.ma K (He.ga K "Way") "outcome") := meth_ok (T.fact 109 rfl)
theorem Txt.m_Lists_least_votes (T : Txt K mg) : Meth K (He.ga K "Lists") "least_votes" (He.ma K (He.ga K "Lists") "least_votes") := meth_ok (T.fact 110 rfl)
theorem Txt.m_Lists_mark (T : Txt K mg) : Meth K (He.ga K "Lists") "mark" (He.ma K (He.ga K "Lists") "mark") := meth_ok (T.fact 111 rfl)
theorem Txt.m_Lists_counted (T : Txt K mg) : Meth K (He.ga K "Lists") "counted" (He.ma K (He.ga K "Lists") "counted") := meth_ok (T.fact 112 rfl)
theorem Txt.m_Lists_told_by (T : Txt K mg) : Meth K (He.ga K "Lists") "told_by" (He.ma K (He.ga K "Lists") "told_by") := meth_ok (T.fact 113 rfl)
theorem Txt.k_Lists (T : Txt K mg) : Mk K (He.ga K "Lists") (He.ma K (He.ga K "Lists") "__init__") := He.mkr_ok (T.fact 114 rfl)
theorem Txt.m_House_init (T : Txt K mg) : Meth K (He.ga K "House") "__init__" (He.ma K (He.ga K "House") "__init__") := meth_ok (T.fact 115 rfl)
theorem Txt.m_House_had (T : Txt K mg) : Meth K (He.ga K "House") "had" (He.ma K (He.ga K "House") "had") := meth_ok (T.fact 116 rfl)
theorem Txt.m_House_evening_paper (T : Txt K mg) : Meth K (He.ga K "House") "evening_paper" (He.ma K (He.ga K "House") "evening_paper") := meth_ok (T.fact 117 rfl)
theorem Txt.m_House_of_evening (T : Txt K mg) : Meth K (He.ga K "House") "of_evening" (He.ma K (He.ga K "House") "of_evening") := meth_ok (T.fact 118 rfl)
theorem Txt.m_House_in_all (T : Txt K mg) : Meth K (He.ga K "House") "in_all" (He.ma K (He.ga K "House") "in_all") := meth_ok (T.fact 119 rfl)
theorem Txt.k_House (T : Txt K mg) : Mk K (He.ga K "House") (He.ma K (He.ga K "House") "__init__") := He.mkr_ok (T.fact 120 rfl)
theorem Txt.m_ListsMargin_init (T : Txt K mg) : Meth K (He.ga K "ListsMargin") "__init__" (He.ma K (He.ga K "Margin") "__init__") := meth_ok (T.fact 121 rfl)
theorem Txt.m_ListsMargin_held (T : Txt K mg) : Meth K (He.ga K "ListsMargin") "held" (He.ma K (He.ga K "ListsMargin") "held") := meth_ok (T.fact 122 rfl)
theorem Txt.k_ListsMargin (T : Txt K mg) : Mk K (He.ga K "ListsMargin") (He.ma K (He.ga K "ListsMargin") "__init__") := He.mkr_ok (T.fact 123 rfl)
theorem Txt.m_LandMargin_init (T : Txt K mg) : Meth K (He.ga K "LandMargin") "__init__" (He.ma K (He.ga K "LandMargin") "__init__") := meth_ok (T.fact 124 rfl)
theorem Txt.m_LandMargin_even_held (T : Txt K mg) : Meth K (He.ga K "LandMargin") "even_held" (He.ma K (He.ga K "LandMargin") "even_held") := meth_ok (T.fact 125 rfl)
theorem Txt.m_LandMargin_held (T : Txt K mg) : Meth K (He.ga K "LandMargin") "held" (He.ma K (He.ga K "LandMargin") "held") := meth_ok (T.fact 126 rfl)
theorem Txt.k_LandMargin (T : Txt K mg) : Mk K (He.ga K "LandMargin") (He.ma K (He.ga K "LandMargin") "__init__") := He.mkr_ok (T.fact 127 rfl)
theorem Txt.m_Land_init (T : Txt K mg) : Meth K (He.ga K "Land") "__init__" (He.ma K (He.ga K "Land") "__init__") := meth_ok (T.fact 128 rfl)
theorem Txt.m_Land_ahead (T : Txt K mg) : Meth K (He.ga K "Land") "ahead" (He.ma K (He.ga K "Land") "ahead") := meth_ok (T.fact 129 rfl)
theorem Txt.m_Land_votes (T : Txt K mg) : Meth K (He.ga K "Land") "votes" (He.ma K (He.ga K "Land") "votes") := meth_ok (T.fact 130 rfl)
theorem Txt.m_Land_least_votes (T : Txt K mg) : Meth K (He.ga K "Land") "least_votes" (He.ma K (He.ga K "Land") "least_votes") := meth_ok (T.fact 131 rfl)
theorem Txt.m_Land_mark (T : Txt K mg) : Meth K (He.ga K "Land") "mark" (He.ma K (He.ga K "Land") "mark") := meth_ok (T.fact 132 rfl)
theorem Txt.k_Land (T : Txt K mg) : Mk K (He.ga K "Land") (He.ma K (He.ga K "Land") "__init__") := He.mkr_ok (T.fact 133 rfl)
theorem Txt.way_init (T : Txt K mg) : ClX.CRead K (He.ga K "Way") (.type "type") ∧ ClX.CVal K (He.ga K "Way") (.type "type") "__init__" (.ref (He.ma K (He.ga K "Way") "__init__")) (.ref (He.ma K (He.ga K "Way") "__init__")) := cfn_ok (T.fact 134 rfl)
theorem Txt.kit_areas (T : Txt K mg) : PySem.W.kitAny K (.ref (He.ga K "Lists")) [.ref (He.ga K "Pairs"), .ref (He.ga K "Lists")] = some true := kt_ok (T.fact 135 rfl)
theorem Txt.kit_lists (T : Txt K mg) : PySem.W.kitOne K (.ref (He.ga K "Lists")) (.ref (He.ga K "Lists")) = some true := k1_ok (T.fact 136 rfl)
theorem Txt.ins_Lists (T : Txt K mg) : InsK K (He.ga K "Lists") := ins_ok (T.fact 137 rfl)
theorem Txt.fd_is_whole (T : Txt K mg) : ∃ fd, FunD K "is_whole" "is_whole" (defArgs s_is_whole) (defBody s_is_whole) (defScope s_is_whole) [] [] (He.ga K "is_whole") fd := T.defs 0 (d := d_is_whole) rfl
theorem Txt.b_is_whole {fd : FuncData} (F : FunD K "is_whole" "is_whole" (defArgs s_is_whole) (defBody s_is_whole) (defScope s_is_whole) [] [] (He.ga K "is_whole") fd) : Binds K fd ["thing"] [] := F.bindsN fun _ _ _ _ _ _ us hl => match us, hl with | [_], _ => rfl
theorem Txt.fd_divisor (T : Txt K mg) : ∃ fd, FunD K "divisor" "divisor" (defArgs s_divisor) (defBody s_divisor) (defScope s_divisor) [] [] (He.ga K "divisor") fd := T.defs 1 (d := d_divisor) rfl
theorem Txt.b_divisor {fd : FuncData} (F : FunD K "divisor" "divisor" (defArgs s_divisor) (defBody s_divisor) (defScope s_divisor) [] [] (He.ga K "divisor") fd) : Binds K fd ["one", "other"] [] := F.bindsN fun _ _ _ _ _ _ us hl => match us, hl with | [_, _], _ => rfl
theorem Txt.fd_up (T : Txt K mg) : ∃ fd, FunD K "up" "up" (defArgs s_up) (defBody s_up) (defScope s_up) [] [] (He.ga K "up") fd := T.defs 2 (d := d_up) rfl
theorem Txt.b_up {fd : FuncData} (F : FunD K "up" "up" (defArgs s_up) (defBody s_up) (defScope s_up) [] [] (He.ga K "up") fd) : Binds K fd ["top", "bottom"] [] := F.bindsN fun _ _ _ _ _ _ us hl => match us, hl with | [_, _], _ => rfl
theorem Txt.fd_fraction (T : Txt K mg) : ∃ fd, FunD K "fraction" "fraction" (defArgs s_fraction) (defBody s_fraction) (defScope s_fraction) [] [] (He.ga K "fraction") fd := T.defs 3 (d := d_fraction) rfl
theorem Txt.b_fraction {fd : FuncData} (F : FunD K "fraction" "fraction" (defArgs s_fraction) (defBody s_fraction) (defScope s_fraction) [] [] (He.ga K "fraction") fd) : Binds K fd ["top", "bottom"] [] := F.bindsN fun _ _ _ _ _ _ us hl => match us, hl with | [_, _], _ => rfl
theorem Txt.fd_under (T : Txt K mg) : ∃ fd, FunD K "under" "under" (defArgs s_under) (defBody s_under) (defScope s_under) [] [] (He.ga K "under") fd := T.defs 4 (d := d_under) rfl
theorem Txt.b_under {fd : FuncData} (F : FunD K "under" "under" (defArgs s_under) (defBody s_under) (defScope s_under) [] [] (He.ga K "under") fd) : Binds K fd ["one", "other"] [] := F.bindsN fun _ _ _ _ _ _ us hl => match us, hl with | [_, _], _ => rfl
theorem Txt.fd_holds (T : Txt K mg) : ∃ fd, FunD K "holds" "holds" (defArgs s_holds) (defBody s_holds) (defScope s_holds) [] [] (He.ga K "holds") fd := T.defs 5 (d := d_holds) rfl
theorem Txt.b_holds {fd : FuncData} (F : FunD K "holds" "holds" (defArgs s_holds) (defBody s_holds) (defScope s_holds) [] [] (He.ga K "holds") fd) : Binds K fd ["mask", "hand"] [] := F.bindsN fun _ _ _ _ _ _ us hl => match us, hl with | [_, _], _ => rfl
theorem Txt.fd_members (T : Txt K mg) : ∃ fd, FunD K "members" "members" (defArgs s_members) (defBody s_members) (defScope s_members) [] [] (He.ga K "members") fd := T.defs 6 (d := d_members) rfl
theorem Txt.b_members {fd : FuncData} (F : FunD K "members" "members" (defArgs s_members) (defBody s_members) (defScope s_members) [] [] (He.ga K "members") fd) : Binds K fd ["mask"] [] := F.bindsN fun _ _ _ _ _ _ us hl => match us, hl with | [_], _ => rfl
theorem Txt.fd_size (T : Txt K mg) : ∃ fd, FunD K "size" "size" (defArgs s_size) (defBody s_size) (defScope s_size) [] [] (He.ga K "size") fd := T.defs 7 (d := d_size) rfl
theorem Txt.b_size {fd : FuncData} (F : FunD K "size" "size" (defArgs s_size) (defBody s_size) (defScope s_size) [] [] (He.ga K "size") fd) : Binds K fd ["mask"] [] := F.bindsN fun _ _ _ _ _ _ us hl => match us, hl with | [_], _ => rfl
theorem Txt.fd_put_together (T : Txt K mg) : ∃ fd, FunD K "put_together" "put_together" (defArgs s_put_together) (defBody s_put_together) (defScope s_put_together) [] [] (He.ga K "put_together") fd := T.defs 8 (d := d_put_together) rfl
theorem Txt.b_put_together {fd : FuncData} (F : FunD K "put_together" "put_together" (defArgs s_put_together) (defBody s_put_together) (defScope s_put_together) [] [] (He.ga K "put_together") fd) : Binds K fd ["lines"] [] := F.bindsN fun _ _ _ _ _ _ us hl => match us, hl with | [_], _ => rfl
theorem Txt.fd_joined (T : Txt K mg) : ∃ fd, FunD K "joined" "joined" (defArgs s_joined) (defBody s_joined) (defScope s_joined) [] [] (He.ga K "joined") fd := T.defs 9 (d := d_joined) rfl
theorem Txt.b_joined {fd : FuncData} (F : FunD K "joined" "joined" (defArgs s_joined) (defBody s_joined) (defScope s_joined) [] [] (He.ga K "joined") fd) : Binds K fd ["sheets"] [] := F.bindsN fun _ _ _ _ _ _ us hl => match us, hl with | [_], _ => rfl
theorem Txt.fd_ballots_in (T : Txt K mg) : ∃ fd, FunD K "ballots_in" "ballots_in" (defArgs s_ballots_in) (defBody s_ballots_in) (defScope s_ballots_in) [] [] (He.ga K "ballots_in") fd := T.defs 10 (d := d_ballots_in) rfl
theorem Txt.b_ballots_in {fd : FuncData} (F : FunD K "ballots_in" "ballots_in" (defArgs s_ballots_in) (defBody s_ballots_in) (defScope s_ballots_in) [] [] (He.ga K "ballots_in") fd) : Binds K fd ["sheet"] [] := F.bindsN fun _ _ _ _ _ _ us hl => match us, hl with | [_], _ => rfl
theorem Txt.fd_lots_of (T : Txt K mg) : ∃ fd, FunD K "lots_of" "lots_of" (defArgs s_lots_of) (defBody s_lots_of) (defScope s_lots_of) [] [] (He.ga K "lots_of") fd := T.defs 11 (d := d_lots_of) rfl
theorem Txt.b_lots_of {fd : FuncData} (F : FunD K "lots_of" "lots_of" (defArgs s_lots_of) (defBody s_lots_of) (defScope s_lots_of) [] [] (He.ga K "lots_of") fd) : Binds K fd ["hands", "lots"] [] := F.bindsN fun _ _ _ _ _ _ us hl => match us, hl with | [_, _], _ => rfl
theorem Txt.fd_vote_of (T : Txt K mg) : ∃ fd, FunD K "vote_of" "vote_of" (defArgs s_vote_of) (defBody s_vote_of) (defScope s_vote_of) [] [] (He.ga K "vote_of") fd := T.defs 12 (d := d_vote_of) rfl
theorem Txt.b_vote_of {fd : FuncData} (F : FunD K "vote_of" "vote_of" (defArgs s_vote_of) (defBody s_vote_of) (defScope s_vote_of) [] [] (He.ga K "vote_of") fd) : Binds K fd ["slip"] [] := F.bindsN fun _ _ _ _ _ _ us hl => match us, hl with | [_], _ => rfl
theorem Txt.fd_votes_of (T : Txt K mg) : ∃ fd, FunD K "votes_of" "votes_of" (defArgs s_votes_of) (defBody s_votes_of) (defScope s_votes_of) [] [] (He.ga K "votes_of") fd := T.defs 13 (d := d_votes_of) rfl
theorem Txt.b_votes_of {fd : FuncData} (F : FunD K "votes_of" "votes_of" (defArgs s_votes_of) (defBody s_votes_of) (defScope s_votes_of) [] [] (He.ga K "votes_of") fd) : Binds K fd ["sheet", "hands"] [] := F.bindsN fun _ _ _ _ _ _ us hl => match us, hl with | [_, _], _ => rfl
theorem Txt.fd_hurdle_of (T : Txt K mg) : ∃ fd, FunD K "hurdle_of" "hurdle_of" (defArgs s_hurdle_of) (defBody s_hurdle_of) (defScope s_hurdle_of) [] [] (He.ga K "hurdle_of") fd := T.defs 14 (d := d_hurdle_of) rfl
theorem Txt.b_hurdle_of {fd : FuncData} (F : FunD K "hurdle_of" "hurdle_of" (defArgs s_hurdle_of) (defBody s_hurdle_of) (defScope s_hurdle_of) [] [] (He.ga K "hurdle_of") fd) : Binds K fd ["hurdle"] [] := F.bindsN fun _ _ _ _ _ _ us hl => match us, hl with | [_], _ => rfl
theorem Txt.fd_marks_of (T : Txt K mg) : ∃ fd, FunD K "marks_of" "marks_of" (defArgs s_marks_of) (defBody s_marks_of) (defScope s_marks_of) [] [] (He.ga K "marks_of") fd := T.defs 15 (d := d_marks_of) rfl
theorem Txt.b_marks_of {fd : FuncData} (F : FunD K "marks_of" "marks_of" (defArgs s_marks_of) (defBody s_marks_of) (defScope s_marks_of) [] [] (He.ga K "marks_of") fd) : Binds K fd ["way", "votes", "least", "had"] [] := F.bindsN fun _ _ _ _ _ _ us hl => match us, hl with | [_, _, _, _], _ => rfl
theorem Txt.fd_goes_ahead (T : Txt K mg) : ∃ fd, FunD K "goes_ahead" "goes_ahead" (defArgs s_goes_ahead) (defBody s_goes_ahead) (defScope s_goes_ahead) [] [] (He.ga K "goes_ahead") fd := T.defs 16 (d := d_goes_ahead) rfl
theorem Txt.b_goes_ahead {fd : FuncData} (F : FunD K "goes_ahead" "goes_ahead" (defArgs s_goes_ahead) (defBody s_goes_ahead) (defScope s_goes_ahead) [] [] (He.ga K "goes_ahead") fd) : Binds K fd ["way", "marks", "one", "other"] [] := F.bindsN fun _ _ _ _ _ _ us hl => match us, hl with | [_, _, _, _], _ => rfl
theorem Txt.fd_seat_due (T : Txt K mg) : ∃ fd, FunD K "seat_due" "seat_due" (defArgs s_seat_due) (defBody s_seat_due) (defScope s_seat_due) [] [] (He.ga K "seat_due") fd := T.defs 17 (d := d_seat_due) rfl
theorem Txt.b_seat_due {fd : FuncData} (F : FunD K "seat_due" "seat_due" (defArgs s_seat_due) (defBody s_seat_due) (defScope s_seat_due) [] [] (He.ga K "seat_due") fd) : Binds K fd ["way", "marks"] [] := F.bindsN fun _ _ _ _ _ _ us hl => match us, hl with | [_, _], _ => rfl
theorem Txt.fd_rounds_of (T : Txt K mg) : ∃ fd, FunD K "rounds_of" "rounds_of" (defArgs s_rounds_of) (defBody s_rounds_of) (defScope s_rounds_of) [] [] (He.ga K "rounds_of") fd := T.defs 18 (d := d_rounds_of) rfl
theorem Txt.b_rounds_of {fd : FuncData} (F : FunD K "rounds_of" "rounds_of" (defArgs s_rounds_of) (defBody s_rounds_of) (defScope s_rounds_of) [] [] (He.ga K "rounds_of") fd) : Binds K fd ["land", "votes", "least", "had", "many"] [] := F.bindsN fun _ _ _ _ _ _ us hl => match us, hl with | [_, _, _, _, _], _ => rfl
theorem Txt.fd_evening (T : Txt K mg) : ∃ fd, FunD K "evening" "evening" (defArgs s_evening) (defBody s_evening) (defScope s_evening) [] [] (He.ga K "evening") fd := T.defs 19 (d := d_evening) rfl
theorem Txt.b_evening {fd : FuncData} (F : FunD K "evening" "evening" (defArgs s_evening) (defBody s_evening) (defScope s_evening) [] [] (He.ga K "evening") fd) : Binds K fd ["land", "votes", "had"] [] := F.bindsN fun _ _ _ _ _ _ us hl => match us, hl with | [_, _, _], _ => rfl
theorem Txt.fd_evened_by (T : Txt K mg) : ∃ fd, FunD K "evened_by" "evened_by" (defArgs s_evened_by) (defBody s_evened_by) (defScope s_evened_by) [] [] (He.ga K "evened_by") fd := T.defs 20 (d := d_evened_by) rfl
theorem Txt.b_evened_by {fd : FuncData} (F : FunD K "evened_by" "evened_by" (defArgs s_evened_by) (defBody s_evened_by) (defScope s_evened_by) [] [] (He.ga K "evened_by") fd) : Binds K fd ["land", "paper"] [] := F.bindsN fun _ _ _ _ _ _ us hl => match us, hl with | [_, _], _ => rfl
theorem Txt.fd_ballots_of (T : Txt K mg) : ∃ fd, FunD K "ballots_of" "ballots_of" (defArgs s_ballots_of) (defBody s_ballots_of) (defScope s_ballots_of) [] [] (He.ga K "ballots_of") fd := T.defs 21 (d := d_ballots_of) rfl
theorem Txt.b_ballots_of {fd : FuncData} (F : FunD K "ballots_of" "ballots_of" (defArgs s_ballots_of) (defBody s_ballots_of) (defScope s_ballots_of) [] [] (He.ga K "ballots_of") fd) : Binds K fd ["sheets"] [] := F.bindsN fun _ _ _ _ _ _ us hl => match us, hl with | [_], _ => rfl
theorem Txt.fd_passes_by (T : Txt K mg) : ∃ fd, FunD K "passes_by" "passes_by" (defArgs s_passes_by) (defBody s_passes_by) (defScope s_passes_by) [] [] (He.ga K "passes_by") fd := T.defs 22 (d := d_passes_by) rfl
theorem Txt.b_passes_by {fd : FuncData} (F : FunD K "passes_by" "passes_by" (defArgs s_passes_by) (defBody s_passes_by) (defScope s_passes_by) [] [] (He.ga K "passes_by") fd) : Binds K fd ["way", "one", "other", "hands"] [] := F.bindsN fun _ _ _ _ _ _ us hl => match us, hl with | [_, _, _, _], _ => rfl
theorem Txt.fd_margin_for (T : Txt K mg) : ∃ fd, FunD K "margin_for" "margin_for" (defArgs s_margin_for) (defBody s_margin_for) (defScope s_margin_for) [] [] (He.ga K "margin_for") fd := T.defs 23 (d := d_margin_for) rfl
theorem Txt.b_margin_for {fd : FuncData} (F : FunD K "margin_for" "margin_for" (defArgs s_margin_for) (defBody s_margin_for) (defScope s_margin_for) [] [] (He.ga K "margin_for") fd) : Binds K fd ["way"] [] := F.bindsN fun _ _ _ _ _ _ us hl => match us, hl with | [_], _ => rfl
theorem Txt.fd_unseen_in (T : Txt K mg) : ∃ fd, FunD K "unseen_in" "unseen_in" (defArgs s_unseen_in) (defBody s_unseen_in) (defScope s_unseen_in) [] [] (He.ga K "unseen_in") fd := T.defs 24 (d := d_unseen_in) rfl
theorem Txt.b_unseen_in {fd : FuncData} (F : FunD K "unseen_in" "unseen_in" (defArgs s_unseen_in) (defBody s_unseen_in) (defScope s_unseen_in) [] [] (He.ga K "unseen_in") fd) : Binds K fd ["known", "seen"] [] := F.bindsN fun _ _ _ _ _ _ us hl => match us, hl with | [_, _], _ => rfl
theorem Txt.fd_sheets_by (T : Txt K mg) : ∃ fd, FunD K "sheets_by" "sheets_by" (defArgs s_sheets_by) (defBody s_sheets_by) (defScope s_sheets_by) [] [] (He.ga K "sheets_by") fd := T.defs 25 (d := d_sheets_by) rfl
theorem Txt.b_sheets_by {fd : FuncData} (F : FunD K "sheets_by" "sheets_by" (defArgs s_sheets_by) (defBody s_sheets_by) (defScope s_sheets_by) [] [] (He.ga K "sheets_by") fd) : Binds K fd ["land", "bundles"] [] := F.bindsN fun _ _ _ _ _ _ us hl => match us, hl with | [_, _], _ => rfl
theorem Txt.fd_settles (T : Txt K mg) : ∃ fd, FunD K "settles" "settles" (defArgs s_settles) (defBody s_settles) (defScope s_settles) [] [] (He.ga K "settles") fd := T.defs 26 (d := d_settles) rfl
theorem Txt.b_settles {fd : FuncData} (F : FunD K "settles" "settles" (defArgs s_settles) (defBody s_settles) (defScope s_settles) [] [] (He.ga K "settles") fd) : Binds K fd ["land", "bundles", "lot"] [] := F.bindsN fun _ _ _ _ _ _ us hl => match us, hl with | [_, _, _], _ => rfl
theorem Txt.fd_is_in (T : Txt K mg) : ∃ fd, FunD K "is_in" "is_in" (defArgs s_is_in) (defBody s_is_in) (defScope s_is_in) [] [] (He.ga K "is_in") fd := T.defs 27 (d := d_is_in) rfl
theorem Txt.b_is_in {fd : FuncData} (F : FunD K "is_in" "is_in" (defArgs s_is_in) (defBody s_is_in) (defScope s_is_in) [] [] (He.ga K "is_in") fd) : Binds K fd ["one", "other"] [] := F.bindsN fun _ _ _ _ _ _ us hl => match us, hl with | [_, _], _ => rfl
theorem Txt.fd_settling (T : Txt K mg) : ∃ fd, FunD K "settling" "settling" (defArgs s_settling) (defBody s_settling) (defScope s_settling) [] [] (He.ga K "settling") fd := T.defs 28 (d := d_settling) rfl
theorem Txt.b_settling {fd : FuncData} (F : FunD K "settling" "settling" (defArgs s_settling) (defBody s_settling) (defScope s_settling) [] [] (He.ga K "settling") fd) : Binds K fd ["land", "bundles"] [] := F.bindsN fun _ _ _ _ _ _ us hl => match us, hl with | [_, _], _ => rfl
theorem Txt.fd_least_lots (T : Txt K mg) : ∃ fd, FunD K "least_lots" "least_lots" (defArgs s_least_lots) (defBody s_least_lots) (defScope s_least_lots) [] [] (He.ga K "least_lots") fd := T.defs 29 (d := d_least_lots) rfl
theorem Txt.b_least_lots {fd : FuncData} (F : FunD K "least_lots" "least_lots" (defArgs s_least_lots) (defBody s_least_lots) (defScope s_least_lots) [] [] (He.ga K "least_lots") fd) : Binds K fd ["land", "bundles"] [] := F.bindsN fun _ _ _ _ _ _ us hl => match us, hl with | [_, _], _ => rfl
theorem Txt.fd_greatest_open (T : Txt K mg) : ∃ fd, FunD K "greatest_open" "greatest_open" (defArgs s_greatest_open) (defBody s_greatest_open) (defScope s_greatest_open) [] [] (He.ga K "greatest_open") fd := T.defs 30 (d := d_greatest_open) rfl
theorem Txt.b_greatest_open {fd : FuncData} (F : FunD K "greatest_open" "greatest_open" (defArgs s_greatest_open) (defBody s_greatest_open) (defScope s_greatest_open) [] [] (He.ga K "greatest_open") fd) : Binds K fd ["land", "bundles"] [] := F.bindsN fun _ _ _ _ _ _ us hl => match us, hl with | [_, _], _ => rfl
theorem Txt.fd_must_look (T : Txt K mg) : ∃ fd, FunD K "must_look" "must_look" (defArgs s_must_look) (defBody s_must_look) (defScope s_must_look) [] [] (He.ga K "must_look") fd := T.defs 31 (d := d_must_look) rfl
theorem Txt.b_must_look {fd : FuncData} (F : FunD K "must_look" "must_look" (defArgs s_must_look) (defBody s_must_look) (defScope s_must_look) [] [] (He.ga K "must_look") fd) : Binds K fd ["land", "bundles"] [] := F.bindsN fun _ _ _ _ _ _ us hl => match us, hl with | [_, _], _ => rfl
theorem Txt.fd_fewest (T : Txt K mg) : ∃ fd, FunD K "fewest" "fewest" (defArgs s_fewest) (defBody s_fewest) (defScope s_fewest) [] [] (He.ga K "fewest") fd := T.defs 32 (d := d_fewest) rfl
theorem Txt.b_fewest {fd : FuncData} (F : FunD K "fewest" "fewest" (defArgs s_fewest) (defBody s_fewest) (defScope s_fewest) [] [] (He.ga K "fewest") fd) : Binds K fd ["land", "bundles"] [] := F.bindsN fun _ _ _ _ _ _ us hl => match us, hl with | [_, _], _ => rfl
theorem Txt.fd_is_count (T : Txt K mg) : ∃ fd, FunD K "is_count" "is_count" (defArgs s_is_count) (defBody s_is_count) (defScope s_is_count) [] [] (He.ga K "is_count") fd := T.defs 33 (d := d_is_count) rfl
theorem Txt.b_is_count {fd : FuncData} (F : FunD K "is_count" "is_count" (defArgs s_is_count) (defBody s_is_count) (defScope s_is_count) [] [] (He.ga K "is_count") fd) : Binds K fd ["thing", "most"] [] := F.bindsN fun _ _ _ _ _ _ us hl => match us, hl with | [_, _], _ => rfl
theorem Txt.fd_areas_of (T : Txt K mg) : ∃ fd, FunD K "areas_of" "areas_of" (defArgs s_areas_of) (defBody s_areas_of) (defScope s_areas_of) [] [] (He.ga K "areas_of") fd := T.defs 34 (d := d_areas_of) rfl
theorem Txt.b_areas_of {fd : FuncData} (F : FunD K "areas_of" "areas_of" (defArgs s_areas_of) (defBody s_areas_of) (defScope s_areas_of) [] [] (He.ga K "areas_of") fd) : Binds K fd ["areas"] [] := F.bindsN fun _ _ _ _ _ _ us hl => match us, hl with | [_], _ => rfl
theorem Txt.fd_law_bag (T : Txt K mg) : ∃ fd, FunD K "_law_bag" "_law_bag" (defArgs s_law_bag) (defBody s_law_bag) (defScope s_law_bag) [] [] (He.ga K "_law_bag") fd := T.defs 35 (d := d_law_bag) rfl
theorem Txt.b_law_bag {fd : FuncData} (F : FunD K "_law_bag" "_law_bag" (defArgs s_law_bag) (defBody s_law_bag) (defScope s_law_bag) [] [] (He.ga K "_law_bag") fd) : Binds K fd ["_law_script"] [] := F.bindsN fun _ _ _ _ _ _ us hl => match us, hl with | [_], _ => rfl
theorem Txt.fd_law_take (T : Txt K mg) : ∃ fd, FunD K "_law_take" "_law_take" (defArgs s_law_take) (defBody s_law_take) (defScope s_law_take) [] [] (He.ga K "_law_take") fd := T.defs 36 (d := d_law_take) rfl
theorem Txt.b_law_take {fd : FuncData} (F : FunD K "_law_take" "_law_take" (defArgs s_law_take) (defBody s_law_take) (defScope s_law_take) [] [] (He.ga K "_law_take") fd) : Binds K fd ["_law_bag_here", "_law_many_here"] [] := F.bindsN fun _ _ _ _ _ _ us hl => match us, hl with | [_, _], _ => rfl
theorem Txt.fd_law_one (T : Txt K mg) : ∃ fd, FunD K "_law_one" "_law_one" (defArgs s_law_one) (defBody s_law_one) (defScope s_law_one) [] [] (He.ga K "_law_one") fd := T.defs 37 (d := d_law_one) rfl
theorem Txt.b_law_one {fd : FuncData} (F : FunD K "_law_one" "_law_one" (defArgs s_law_one) (defBody s_law_one) (defScope s_law_one) [] [] (He.ga K "_law_one") fd) : Binds K fd ["_law_bag_here", "_law_some"] [] := F.bindsN fun _ _ _ _ _ _ us hl => match us, hl with | [_, _], _ => rfl
theorem Txt.fd_law_alike (T : Txt K mg) : ∃ fd, FunD K "_law_alike" "_law_alike" (defArgs s_law_alike) (defBody s_law_alike) (defScope s_law_alike) [] [] (He.ga K "_law_alike") fd := T.defs 38 (d := d_law_alike) rfl
theorem Txt.b_law_alike {fd : FuncData} (F : FunD K "_law_alike" "_law_alike" (defArgs s_law_alike) (defBody s_law_alike) (defScope s_law_alike) [] [] (He.ga K "_law_alike") fd) : Binds K fd ["_law_found", "_law_due"] [] := F.bindsN fun _ _ _ _ _ _ us hl => match us, hl with | [_, _], _ => rfl
theorem Txt.fd_law_mixed (T : Txt K mg) : ∃ fd, FunD K "_law_mixed" "_law_mixed" (defArgs s_law_mixed) (defBody s_law_mixed) (defScope s_law_mixed) [] [] (He.ga K "_law_mixed") fd := T.defs 39 (d := d_law_mixed) rfl
theorem Txt.b_law_mixed {fd : FuncData} (F : FunD K "_law_mixed" "_law_mixed" (defArgs s_law_mixed) (defBody s_law_mixed) (defScope s_law_mixed) [] [] (He.ga K "_law_mixed") fd) : Binds K fd ["_law_bag_here", "_law_things"] [] := F.bindsN fun _ _ _ _ _ _ us hl => match us, hl with | [_, _], _ => rfl
theorem Txt.fd_law_takers (T : Txt K mg) : ∃ fd, FunD K "_law_takers" "_law_takers" (defArgs s_law_takers) (defBody s_law_takers) (defScope s_law_takers) [] [] (He.ga K "_law_takers") fd := T.defs 40 (d := d_law_takers) rfl
theorem Txt.b_law_takers {fd : FuncData} (F : FunD K "_law_takers" "_law_takers" (defArgs s_law_takers) (defBody s_law_takers) (defScope s_law_takers) [] [] (He.ga K "_law_takers") fd) : Binds K fd ["_law_votes", "_law_wanted_here", "_law_had", "_law_seats", "_law_step", "_law_lots"] [] := F.bindsN fun _ _ _ _ _ _ us hl => match us, hl with | [_, _, _, _, _, _], _ => rfl
theorem Txt.fd_law_many (T : Txt K mg) : ∃ fd, FunD K "_law_many" "_law_many" (defArgs s_law_many) (defBody s_law_many) (defScope s_law_many) [] [] (He.ga K "_law_many") fd := T.defs 41 (d := d_law_many) rfl
theorem Txt.b_law_many {fd : FuncData} (F : FunD K "_law_many" "_law_many" (defArgs s_law_many) (defBody s_law_many) (defScope s_law_many) [] [] (He.ga K "_law_many") fd) : Binds K fd ["_law_hands", "_law_takers_here"] [] := F.bindsN fun _ _ _ _ _ _ us hl => match us, hl with | [_, _], _ => rfl
theorem Txt.fd_law_wanted (T : Txt K mg) : ∃ fd, FunD K "_law_wanted" "_law_wanted" (defArgs s_law_wanted) (defBody s_law_wanted) (defScope s_law_wanted) [] [] (He.ga K "_law_wanted") fd := T.defs 42 (d := d_law_wanted) rfl
theorem Txt.b_law_wanted {fd : FuncData} (F : FunD K "_law_wanted" "_law_wanted" (defArgs s_law_wanted) (defBody s_law_wanted) (defScope s_law_wanted) [] [] (He.ga K "_law_wanted") fd) : Binds K fd ["_law_hurdle", "_law_ballots"] [] := F.bindsN fun _ _ _ _ _ _ us hl => match us, hl with | [_, _], _ => rfl
theorem Txt.fd_law_sheet (T : Txt K mg) : ∃ fd, FunD K "_law_sheet" "_law_sheet" (defArgs s_law_sheet) (defBody s_law_sheet) (defScope s_law_sheet) [] [] (He.ga K "_law_sheet") fd := T.defs 43 (d := d_law_sheet) rfl
theorem Txt.b_law_sheet {fd : FuncData} (F : FunD K "_law_sheet" "_law_sheet" (defArgs s_law_sheet) (defBody s_law_sheet) (defScope s_law_sheet) [] [] (He.ga K "_law_sheet") fd) : Binds K fd ["_law_votes"] [] := F.bindsN fun _ _ _ _ _ _ us hl => match us, hl with | [_], _ => rfl
theorem Txt.fd_law_partings (T : Txt K mg) : ∃ fd, FunD K "_law_partings" "_law_partings" (defArgs s_law_partings) (defBody s_law_partings) (defScope s_law_partings) [] [] (He.ga K "_law_partings") fd := T.defs 44 (d := d_law_partings) rfl
theorem Txt.b_law_partings {fd : FuncData} (F : FunD K "_law_partings" "_law_partings" (defArgs s_law_partings) (defBody s_law_partings) (defScope s_law_partings) [] [] (He.ga K "_law_partings") fd) : Binds K fd ["_law_many_here", "_law_parts"] [] := F.bindsN fun _ _ _ _ _ _ us hl => match us, hl with | [_, _], _ => rfl
theorem Txt.fd_law_outcome (T : Txt K mg) : ∃ fd, FunD K "_law_outcome" "_law_outcome" (defArgs s_law_outcome) (defBody s_law_outcome) (defScope s_law_outcome) [] [] (He.ga K "_law_outcome") fd := T.defs 45 (d := d_law_outcome) rfl
theorem Txt.b_law_outcome {fd : FuncData} (F : FunD K "_law_outcome" "_law_outcome" (defArgs s_law_outcome) (defBody s_law_outcome) (defScope s_law_outcome) [] [] (He.ga K "_law_outcome") fd) : Binds K fd ["_law_hands", "_law_world", "_law_rows"] [] := F.bindsN fun _ _ _ _ _ _ us hl => match us, hl with | [_, _, _], _ => rfl
theorem Txt.fd_law_area (T : Txt K mg) : ∃ fd, FunD K "_law_area" "_law_area" (defArgs s_law_area) (defBody s_law_area) (defScope s_law_area) [] [] (He.ga K "_law_area") fd := T.defs 46 (d := d_law_area) rfl
theorem Txt.b_law_area {fd : FuncData} (F : FunD K "_law_area" "_law_area" (defArgs s_law_area) (defBody s_law_area) (defScope s_law_area) [] [] (He.ga K "_law_area") fd) : Binds K fd ["_law_bag_here", "_law_hands"] [] := F.bindsN fun _ _ _ _ _ _ us hl => match us, hl with | [_, _], _ => rfl
theorem Txt.fd_law_in (T : Txt K mg) : ∃ fd, FunD K "_law_in" "_law_in" (defArgs s_law_in) (defBody s_law_in) (defScope s_law_in) [] [] (He.ga K "_law_in") fd := T.defs 47 (d := d_law_in) rfl
theorem Txt.b_law_in {fd : FuncData} (F : FunD K "_law_in" "_law_in" (defArgs s_law_in) (defBody s_law_in) (defScope s_law_in) [] [] (He.ga K "_law_in") fd) : Binds K fd ["_law_lot", "_law_k"] [] := F.bindsN fun _ _ _ _ _ _ us hl => match us, hl with | [_, _], _ => rfl
theorem Txt.fd_law_settles (T : Txt K mg) : ∃ fd, FunD K "_law_settles" "_law_settles" (defArgs s_law_settles) (defBody s_law_settles) (defScope s_law_settles) [] [] (He.ga K "_law_settles") fd := T.defs 48 (d := d_law_settles) rfl
theorem Txt.b_law_settles {fd : FuncData} (F : FunD K "_law_settles" "_law_settles" (defArgs s_law_settles) (defBody s_law_settles) (defScope s_law_settles) [] [] (He.ga K "_law_settles") fd) : Binds K fd ["_law_hands", "_law_world", "_law_bundles", "_law_lot"] [] := F.bindsN fun _ _ _ _ _ _ us hl => match us, hl with | [_, _, _, _], _ => rfl
theorem Txt.fd_law_less (T : Txt K mg) : ∃ fd, FunD K "_law_less" "_law_less" (defArgs s_law_less) (defBody s_law_less) (defScope s_law_less) [] [] (He.ga K "_law_less") fd := T.defs 49 (d := d_law_less) rfl
theorem Txt.b_law_less {fd : FuncData} (F : FunD K "_law_less" "_law_less" (defArgs s_law_less) (defBody s_law_less) (defScope s_law_less) [] [] (He.ga K "_law_less") fd) : Binds K fd ["_law_one_here", "_law_lot"] [] := F.bindsN fun _ _ _ _ _ _ us hl => match us, hl with | [_, _], _ => rfl
theorem Txt.fd_law_moved (T : Txt K mg) : ∃ fd, FunD K "_law_moved" "_law_moved" (defArgs s_law_moved) (defBody s_law_moved) (defScope s_law_moved) [] [] (He.ga K "_law_moved") fd := T.defs 50 (d := d_law_moved) rfl
theorem Txt.b_law_moved {fd : FuncData} (F : FunD K "_law_moved" "_law_moved" (defArgs s_law_moved) (defBody s_law_moved) (defScope s_law_moved) [] [] (He.ga K "_law_moved") fd) : Binds K fd ["_law_lot", "_law_order"] [] := F.bindsN fun _ _ _ _ _ _ us hl => match us, hl with | [_, _], _ => rfl
theorem Txt.fd_law_lots_right (T : Txt K mg) : ∃ fd, FunD K "_law_lots_right" "_law_lots_right" (defArgs s_law_lots_right) (defBody s_law_lots_right) (defScope s_law_lots_right) [] [] (He.ga K "_law_lots_right") fd := T.defs 51 (d := d_law_lots_right) rfl
theorem Txt.b_law_lots_right {fd : FuncData} (F : FunD K "_law_lots_right" "_law_lots_right" (defArgs s_law_lots_right) (defBody s_law_lots_right) (defScope s_law_lots_right) [] [] (He.ga K "_law_lots_right") fd) : Binds K fd ["_law_due", "_law_least", "_law_most", "_law_must"] [] := F.bindsN fun _ _ _ _ _ _ us hl => match us, hl with | [_, _, _, _], _ => rfl
theorem Txt.fd_law (T : Txt K mg) : ∃ fd, FunD K "law" "law" (defArgs s_law) (defBody s_law) (defScope s_law) [] [] (He.ga K "law") fd := T.defs 52 (d := d_law) rfl
theorem Txt.b_law {fd : FuncData} (F : FunD K "law" "law" (defArgs s_law) (defBody s_law) (defScope s_law) [] [] (He.ga K "law") fd) : Binds K fd ["_law_script"] [] := F.bindsN fun _ _ _ _ _ _ us hl => match us, hl with | [_], _ => rfl
theorem Txt.fd_Way_init (T : Txt K mg) : ∃ fd, FunD K "__init__" "Way.__init__" (defArgs s_Way_init) (defBody s_Way_init) (defScope s_Way_init) [.non] [] (He.ma K (He.ga K "Way") "__init__") fd := T.defs 53 (d := d_Way_init) rfl
theorem Txt.b_Way_init {fd : FuncData} (F : FunD K "__init__" "Way.__init__" (defArgs s_Way_init) (defBody s_Way_init) (defScope s_Way_init) [.non] [] (He.ma K (He.ga K "Way") "__init__") fd) : Binds K fd ["self", "hands", "seats", "lots"] [] := bindsAll 4 (by decide) rfl F fun _ _ _ _ _ _ _ us its h1 h2 => match us, its, h1, h2 with | [_, _, _, _], [_], _, _ => ⟨_, rfl, rfl⟩
theorem Txt.fd_Way_ahead (T : Txt K mg) : ∃ fd, FunD K "ahead" "Way.ahead" (defArgs s_Way_ahead) (defBody s_Way_ahead) (defScope s_Way_ahead) [] [] (He.ma K (He.ga K "Way") "ahead") fd := T.defs 54 (d := d_Way_ahead) rfl
theorem Txt.b_Way_ahead {fd : FuncData} (F : FunD K "ahead" "Way.ahead" (defArgs s_Way_ahead) (defBody s_Way_ahead) (defScope s_Way_ahead) [] [] (He.ma K (He.ga K "Way") "ahead") fd) : Binds K fd ["self", "one", "other"] [] := F.bindsN fun _ _ _ _ _ _ us hl => match us, hl with | [_, _, _], _ => rfl
theorem Txt.fd_Way_outcome (T : Txt K mg) : ∃ fd, FunD K "outcome" "Way.outcome" (defArgs s_Way_outcome) (defBody s_Way_outcome) (defScope s_Way_outcome) [] [] (He.ma K (He.ga K "Way") "outcome") fd := T.defs 55 (d := d_Way_outcome) rfl
theorem Txt.b_Way_outcome {fd : FuncData} (F : FunD K "outcome" "Way.outcome" (defArgs s_Way_outcome) (defBody s_Way_outcome) (defScope s_Way_outcome) [] [] (He.ma K (He.ga K "Way") "outcome") fd) : Binds K fd ["self", "sheet"] [] := F.bindsN fun _ _ _ _ _ _ us hl => match us, hl with | [_, _], _ => rfl
theorem Txt.fd_Lists_init (T : Txt K mg) : ∃ fd, FunD K "__init__" "Lists.__init__" (defArgs s_Lists_init) (defBody s_Lists_init) (defScope s_Lists_init) [.non, .non, .int 1] [] (He.ma K (He.ga K "Lists") "__init__") fd := T.defs 56 (d := d_Lists_init) rfl
theorem Txt.b_Lists_init {fd : FuncData} (F : FunD K "__init__" "Lists.__init__" (defArgs s_Lists_init) (defBody s_Lists_init) (defScope s_Lists_init) [.non, .non, .int 1] [] (He.ma K (He.ga K "Lists") "__init__") fd) : Binds K fd ["self", "hands", "seats", "lots", "hurdle", "step"] [] := bindsAll 6 (by decide) rfl F fun _ _ _ _ _ _ _ us its h1 h2 => match us, its, h1, h2 with | [_, _, _, _, _, _], [_, _, _], _, _ => ⟨_, rfl, rfl⟩
theorem Txt.fd_Lists_least_votes (T : Txt K mg) : ∃ fd, FunD K "least_votes" "Lists.least_votes" (defArgs s_Lists_least_votes) (defBody s_Lists_least_votes) (defScope s_Lists_least_votes) [] [] (He.ma K (He.ga K "Lists") "least_votes") fd := T.defs 57 (d := d_Lists_least_votes) rfl
theorem Txt.b_Lists_least_votes {fd : FuncData} (F : FunD K "least_votes" "Lists.least_votes" (defArgs s_Lists_least_votes) (defBody s_Lists_least_votes) (defScope s_Lists_least_votes) [] [] (He.ma K (He.ga K "Lists") "least_votes") fd) : Binds K fd ["self", "ballots"] [] := F.bindsN fun _ _ _ _ _ _ us hl => match us, hl with | [_, _], _ => rfl
theorem Txt.fd_Lists_mark (T : Txt K mg) : ∃ fd, FunD K "mark" "Lists.mark" (defArgs s_Lists_mark) (defBody s_Lists_mark) (defScope s_Lists_mark) [] [] (He.ma K (He.ga K "Lists") "mark") fd := T.defs 58 (d := d_Lists_mark) rfl
theorem Txt.b_Lists_mark {fd : FuncData} (F : FunD K "mark" "Lists.mark" (defArgs s_Lists_mark) (defBody s_Lists_mark) (defScope s_Lists_mark) [] [] (He.ma K (He.ga K "Lists") "mark") fd) : Binds K fd ["self", "many", "had"] [] := F.bindsN fun _ _ _ _ _ _ us hl => match us, hl with | [_, _, _], _ => rfl
theorem Txt.fd_Lists_counted (T : Txt K mg) : ∃ fd, FunD K "counted" "Lists.counted" (defArgs s_Lists_counted) (defBody s_Lists_counted) (defScope s_Lists_counted) [] [] (He.ma K (He.ga K "Lists") "counted") fd := T.defs 59 (d := d_Lists_counted) rfl
theorem Txt.b_Lists_counted {fd : FuncData} (F : FunD K "counted" "Lists.counted" (defArgs s_Lists_counted) (defBody s_Lists_counted) (defScope s_Lists_counted) [] [] (He.ma K (He.ga K "Lists") "counted") fd) : Binds K fd ["self", "sheet"] [] := F.bindsN fun _ _ _ _ _ _ us hl => match us, hl with | [_, _], _ => rfl
theorem Txt.fd_Lists_told_by (T : Txt K mg) : ∃ fd, FunD K "told_by" "Lists.told_by" (defArgs s_Lists_told_by) (defBody s_Lists_told_by) (defScope s_Lists_told_by) [] [] (He.ma K (He.ga K "Lists") "told_by") fd := T.defs 60 (d := d_Lists_told_by) rfl
theorem Txt.b_Lists_told_by {fd : FuncData} (F : FunD K "told_by" "Lists.told_by" (defArgs s_Lists_told_by) (defBody s_Lists_told_by) (defScope s_Lists_told_by) [] [] (He.ma K (He.ga K "Lists") "told_by") fd) : Binds K fd ["self", "paper"] [] := F.bindsN fun _ _ _ _ _ _ us hl => match us, hl with | [_, _], _ => rfl
theorem Txt.fd_House_init (T : Txt K mg) : ∃ fd, FunD K "__init__" "House.__init__" (defArgs s_House_init) (defBody s_House_init) (defScope s_House_init) [] [] (He.ma K (He.ga K "House") "__init__") fd := T.defs 61 (d := d_House_init) rfl
theorem Txt.b_House_init {fd : FuncData} (F : FunD K "__init__" "House.__init__" (defArgs s_House_init) (defBody s_House_init) (defScope s_House_init) [] [] (He.ma K (He.ga K "House") "__init__") fd) : Binds K fd ["self", "land", "sheets"] [] := F.bindsN fun _ _ _ _ _ _ us hl => match us, hl with | [_, _, _], _ => rfl
theorem Txt.fd_House_had (T : Txt K mg) : ∃ fd, FunD K "had" "House.had" (defArgs s_House_had) (defBody s_House_had) (defScope s_House_had) [] [] (He.ma K (He.ga K "House") "had") fd := T.defs 62 (d := d_House_had) rfl
theorem Txt.b_House_had {fd : FuncData} (F : FunD K "had" "House.had" (defArgs s_House_had) (defBody s_House_had) (defScope s_House_had) [] [] (He.ma K (He.ga K "House") "had") fd) : Binds K fd ["self"] [] := F.bindsN fun _ _ _ _ _ _ us hl => match us, hl with | [_], _ => rfl
theorem Txt.fd_House_evening_paper (T : Txt K mg) : ∃ fd, FunD K "evening_paper" "House.evening_paper" (defArgs s_House_evening_paper) (defBody s_House_evening_paper) (defScope s_House_evening_paper) [] [] (He.ma K (He.ga K "House") "evening_paper") fd := T.defs 63 (d := d_House_evening_paper) rfl
theorem Txt.b_House_evening_paper {fd : FuncData} (F : FunD K "evening_paper" "House.evening_paper" (defArgs s_House_evening_paper) (defBody s_House_evening_paper) (defScope s_House_evening_paper) [] [] (He.ma K (He.ga K "House") "evening_paper") fd) : Binds K fd ["self"] [] := F.bindsN fun _ _ _ _ _ _ us hl => match us, hl with | [_], _ => rfl
theorem Txt.fd_House_of_evening (T : Txt K mg) : ∃ fd, FunD K "of_evening" "House.of_evening" (defArgs s_House_of_evening) (defBody s_House_of_evening) (defScope s_House_of_evening) [] [] (He.ma K (He.ga K "House") "of_evening") fd := T.defs 64 (d := d_House_of_evening) rfl
theorem Txt.b_House_of_evening {fd : FuncData} (F : FunD K "of_evening" "House.of_evening" (defArgs s_House_of_evening) (defBody s_House_of_evening) (defScope s_House_of_evening) [] [] (He.ma K (He.ga K "House") "of_evening") fd) : Binds K fd ["self"] [] := F.bindsN fun _ _ _ _ _ _ us hl => match us, hl with | [_], _ => rfl
theorem Txt.fd_House_in_all (T : Txt K mg) : ∃ fd, FunD K "in_all" "House.in_all" (defArgs s_House_in_all) (defBody s_House_in_all) (defScope s_House_in_all) [] [] (He.ma K (He.ga K "House") "in_all") fd := T.defs 65 (d := d_House_in_all) rfl
theorem Txt.b_House_in_all {fd : FuncData} (F : FunD K "in_all" "House.in_all" (defArgs s_House_in_all) (defBody s_House_in_all) (defScope s_House_in_all) [] [] (He.ma K (He.ga K "House") "in_all") fd) : Binds K fd ["self"] [] := F.bindsN fun _ _ _ _ _ _ us hl => match us, hl with | [_], _ => rfl
theorem Txt.fd_Margin_init (T : Txt K mg) : ∃ fd, FunD K "__init__" "Margin.__init__" (defArgs s_Margin_init) (defBody s_Margin_init) (defScope s_Margin_init) [] [] (He.ma K (He.ga K "Margin") "__init__") fd := T.defs 66 (d := d_Margin_init) rfl
theorem Txt.b_Margin_init {fd : FuncData} (F : FunD K "__init__" "Margin.__init__" (defArgs s_Margin_init) (defBody s_Margin_init) (defScope s_Margin_init) [] [] (He.ma K (He.ga K "Margin") "__init__") fd) : Binds K fd ["self", "way"] [] := F.bindsN fun _ _ _ _ _ _ us hl => match us, hl with | [_, _], _ => rfl
theorem Txt.fd_ListsMargin_held (T : Txt K mg) : ∃ fd, FunD K "held" "ListsMargin.held" (defArgs s_ListsMargin_held) (defBody s_ListsMargin_held) (defScope s_ListsMargin_held) [] [] (He.ma K (He.ga K "ListsMargin") "held") fd := T.defs 67 (d := d_ListsMargin_held) rfl
theorem Txt.b_ListsMargin_held {fd : FuncData} (F : FunD K "held" "ListsMargin.held" (defArgs s_ListsMargin_held) (defBody s_ListsMargin_held) (defScope s_ListsMargin_held) [] [] (He.ma K (He.ga K "ListsMargin") "held") fd) : Binds K fd ["self", "seen", "unseen", "known"] [] := F.bindsN fun _ _ _ _ _ _ us hl => match us, hl with | [_, _, _, _], _ => rfl
theorem Txt.fd_LandMargin_init (T : Txt K mg) : ∃ fd, FunD K "__init__" "LandMargin.__init__" (defArgs s_LandMargin_init) (defBody s_LandMargin_init) (defScope s_LandMargin_init) [] [] (He.ma K (He.ga K "LandMargin") "__init__") fd := T.defs 68 (d := d_LandMargin_init) rfl
theorem Txt.b_LandMargin_init {fd : FuncData} (F : FunD K "__init__" "LandMargin.__init__" (defArgs s_LandMargin_init) (defBody s_LandMargin_init) (defScope s_LandMargin_init) [] [] (He.ma K (He.ga K "LandMargin") "__init__") fd) : Binds K fd ["self", "land"] [] := F.bindsN fun _ _ _ _ _ _ us hl => match us, hl with | [_, _], _ => rfl
theorem Txt.fd_LandMargin_even_held (T : Txt K mg) : ∃ fd, FunD K "even_held" "LandMargin.even_held" (defArgs s_LandMargin_even_held) (defBody s_LandMargin_even_held) (defScope s_LandMargin_even_held) [] [] (He.ma K (He.ga K "LandMargin") "even_held") fd := T.defs 69 (d := d_LandMargin_even_held) rfl
theorem Txt.b_LandMargin_even_held {fd : FuncData} (F : FunD K "even_held" "LandMargin.even_held" (defArgs s_LandMargin_even_held) (defBody s_LandMargin_even_held) (defScope s_LandMargin_even_held) [] [] (He.ma K (He.ga K "LandMargin") "even_held") fd) : Binds K fd ["self", "seen", "unseen", "known"] [] := F.bindsN fun _ _ _ _ _ _ us hl => match us, hl with | [_, _, _, _], _ => rfl
theorem Txt.fd_LandMargin_held (T : Txt K mg) : ∃ fd, FunD K "held" "LandMargin.held" (defArgs s_LandMargin_held) (defBody s_LandMargin_held) (defScope s_LandMargin_held) [] [] (He.ma K (He.ga K "LandMargin") "held") fd := T.defs 70 (d := d_LandMargin_held) rfl
theorem Txt.b_LandMargin_held {fd : FuncData} (F : FunD K "held" "LandMargin.held" (defArgs s_LandMargin_held) (defBody s_LandMargin_held) (defScope s_LandMargin_held) [] [] (He.ma K (He.ga K "LandMargin") "held") fd) : Binds K fd ["self", "seen", "unseen", "known"] [] := F.bindsN fun _ _ _ _ _ _ us hl => match us, hl with | [_, _, _, _], _ => rfl
theorem Txt.fd_Land_init (T : Txt K mg) : ∃ fd, FunD K "__init__" "Land.__init__" (defArgs s_Land_init) (defBody s_Land_init) (defScope s_Land_init) [.int 0, .non, .non, .int 1] [] (He.ma K (He.ga K "Land") "__init__") fd := T.defs 71 (d := d_Land_init) rfl
theorem Txt.b_Land_init {fd : FuncData} (F : FunD K "__init__" "Land.__init__" (defArgs s_Land_init) (defBody s_Land_init) (defScope s_Land_init) [.int 0, .non, .non, .int 1] [] (He.ma K (He.ga K "Land") "__init__") fd) : Binds K fd ["self", "areas", "evened", "lots", "hurdle", "step"] [] := bindsAll 6 (by decide) rfl F fun _ _ _ _ _ _ _ us its h1 h2 => match us, its, h1, h2 with | [_, _, _, _, _, _], [_, _, _, _], _, _ => ⟨_, rfl, rfl⟩
theorem Txt.fd_Land_ahead (T : Txt K mg) : ∃ fd, FunD K "ahead" "Land.ahead" (defArgs s_Land_ahead) (defBody s_Land_ahead) (defScope s_Land_ahead) [] [] (He.ma K (He.ga K "Land") "ahead") fd := T.defs 72 (d := d_Land_ahead) rfl
theorem Txt.b_Land_ahead {fd : FuncData} (F : FunD K "ahead" "Land.ahead" (defArgs s_Land_ahead) (defBody s_Land_ahead) (defScope s_Land_ahead) [] [] (He.ma K (He.ga K "Land") "ahead") fd) : Binds K fd ["self", "one", "other"] [] := F.bindsN fun _ _ _ _ _ _ us hl => match us, hl with | [_, _, _], _ => rfl
theorem Txt.fd_Land_votes (T : Txt K mg) : ∃ fd, FunD K "votes" "Land.votes" (defArgs s_Land_votes) (defBody s_Land_votes) (defScope s_Land_votes) [] [] (He.ma K (He.ga K "Land") "votes") fd := T.defs 73 (d := d_Land_votes) rfl
theorem Txt.b_Land_votes {fd : FuncData} (F : FunD K "votes" "Land.votes" (defArgs s_Land_votes) (defBody s_Land_votes) (defScope s_Land_votes) [] [] (He.ma K (He.ga K "Land") "votes") fd) : Binds K fd ["self", "sheets"] [] := F.bindsN fun _ _ _ _ _ _ us hl => match us, hl with | [_, _], _ => rfl
theorem Txt.fd_Land_least_votes (T : Txt K mg) : ∃ fd, FunD K "least_votes" "Land.least_votes" (defArgs s_Land_least_votes) (defBody s_Land_least_votes) (defScope s_Land_least_votes) [] [] (He.ma K (He.ga K "Land") "least_votes") fd := T.defs 74 (d := d_Land_least_votes) rfl
theorem Txt.b_Land_least_votes {fd : FuncData} (F : FunD K "least_votes" "Land.least_votes" (defArgs s_Land_least_votes) (defBody s_Land_least_votes) (defScope s_Land_least_votes) [] [] (He.ma K (He.ga K "Land") "least_votes") fd) : Binds K fd ["self", "ballots"] [] := F.bindsN fun _ _ _ _ _ _ us hl => match us, hl with | [_, _], _ => rfl
theorem Txt.fd_Land_mark (T : Txt K mg) : ∃ fd, FunD K "mark" "Land.mark" (defArgs s_Land_mark) (defBody s_Land_mark) (defScope s_Land_mark) [] [] (He.ma K (He.ga K "Land") "mark") fd := T.defs 75 (d := d_Land_mark) rfl
theorem Txt.b_Land_mark {fd : FuncData} (F : FunD K "mark" "Land.mark" (defArgs s_Land_mark) (defBody s_Land_mark) (defScope s_Land_mark) [] [] (He.ma K (He.ga K "Land") "mark") fd) : Binds K fd ["self", "many", "had"] [] := F.bindsN fun _ _ _ _ _ _ us hl => match us, hl with | [_, _, _], _ => rfl
end
end Wp


set_option Elab.async false
set_option linter.all false
set_option maxRecDepth 100000
set_option maxHeartbeats 0
namespace Wp
open PySem PySem.Spec PySem.W PySem.Calls PyProof.Rows
abbrev R : PySem.W.OpenRow := PySem.W.OpenLaw.row PySem.Challenge.rw_wholepoll_k92_whole_lots_of_small_lands
def ob (s : PySem.W.SharedT) : AlM := obsG (HandSHeadRun.getT s)
theorem ob_eq (s : PySem.W.SharedT) : ob s = hk.obs s.abs := obsG_eq (HandSHeadRun.getT_eq s)
theorem run (w : World) : HandSHeadRun.RunEq R (PySem.W.view R.prog [130]) hk ob 12000 loose w := by
  intro os
  kernel_rfl
end Wp


set_option Elab.async false
set_option linter.all false
set_option maxRecDepth 100000
set_option maxHeartbeats 4000000
namespace Wp
open PySem PySem.Spec PyProof.Rows L2
/-! ### two heaps: F, what stands still and is read; H, all that is tracked. F lies in H; what is in H alone may be written -/
structure Xt (F H F' H' : Hp) : Prop where
  ff : Same F F'
  sub : Same F' H'
  hh : Same H H'
  fr : ∀ b, F b = none → H b ≠ none → F' b = none ∨ ∃ xs, H b = some (.tup xs)
  fh : Same F H
theorem same_new {H : Hp} {p : Addr} {o : HO} (h : H p = none) : Same H (upd H p o) := fun b x e => by
  rw [upd_ne (ne_of_none e h)]
  exact e
theorem sm_none {H H' : Hp} {p : Addr} (s : Same H H') (h : H' p = none) : H p = none := s.free h
theorem some_ne {H : Hp} {p : Addr} {o : HO} (h : H p = some o) : H p ≠ none := fun e => by
  rw [h] at e
  cases e
theorem Xt.refl {F H : Hp} (h : Same F H) : Xt F H F H := ⟨Same.refl F, h, Same.refl H, fun _ e _ => .inl e, h⟩
theorem Xt.trans {F H F1 H1 F2 H2 : Hp} (a : Xt F H F1 H1) (b : Xt F1 H1 F2 H2) : Xt F H F2 H2 :=
  ⟨a.ff.trans b.ff, b.sub, a.hh.trans b.hh, fun p e n => by
    rcases a.fr p e n with h | h
    · rcases b.fr p h (fun z => n (a.hh.free z)) with h | ⟨xs, h⟩
      · exact .inl h
      · cases eo : H p with
        | none => exact absurd eo n
        | some o =>
          have := (a.hh _ _ eo).symm.trans h
          exact .inr ⟨xs, this⟩
    · exact .inr h, a.fh⟩
/-- what is no tuple is not read of a sudden -/
theorem Xt.frO {F H F' H' : Hp} {b : Addr} {o : HO} (x : Xt F H F' H') (e : F b = none) (h : H b = some o) (ho : ∀ xs, o ≠ .tup xs) : F' b = none := by
  rcases x.fr b e (by rw [h]; exact fun z => nomatch z) with z | ⟨xs, z⟩
  · exact z
  · rw [h] at z
    exact absurd (Option.some.inj z) (ho xs)
theorem Xt.frL {F H F' H' : Hp} {b : Addr} {xs : List V} (x : Xt F H F' H') (e : F b = none) (h : H b = some (.lst xs)) : F' b = none := x.frO e h fun _ z => nomatch z
/-- nothing but new things, none of them read -/
theorem Xt.of {F H H' : Hp} (h : Same F H) (s : Same H H') : Xt F H F H' := ⟨Same.refl F, h.trans s, s, fun _ e _ => .inl e, h⟩
/-- a new thing, read from now on -/
theorem Xt.new {F H F1 H1 : Hp} {p : Addr} {o : HO} (x : Xt F H F1 H1) (h : H1 p = none) : Xt F H (upd F1 p o) (upd H1 p o) where
  ff := x.ff.trans (same_new (x.sub.free h))
  sub := fun b u e => by
    by_cases hb : b = p
    · subst hb
      rw [upd_same] at e ⊢
      exact e
    · rw [upd_ne hb] at e ⊢
      exact x.sub b u e
  hh := x.hh.trans (same_new h)
  fr := fun b e n => by
    have hb : b ≠ p := fun z => n (x.hh.free (by rw [z]; exact h))
    rw [upd_ne hb]
    exact x.fr b e n
  fh := x.fh
/-- a new thing that may be written -/
theorem Xt.newH {F H F1 H1 : Hp} {p : Addr} {o : HO} (x : Xt F H F1 H1) (h : H1 p = none) : Xt F H F1 (upd H1 p o) :=
  ⟨x.ff, x.sub.trans (same_new h), x.hh.trans (same_new h), x.fr, x.fh⟩
/-- a thing of one's own is written -/
theorem Xt.put {F H F1 H1 : Hp} {p : Addr} {o : HO} (x : Xt F H F1 H1) (h : H p = none) (hf : F1 p = none) : Xt F H F1 (upd H1 p o) where
  ff := x.ff
  sub := fun b u e => by
    rw [upd_ne (ne_of_none e hf)]
    exact x.sub b u e
  hh := fun b u e => by
    rw [upd_ne (ne_of_none e h)]
    exact x.hh b u e
  fr := x.fr
  fh := x.fh
/-- a thing of one's own is read from now on -/
theorem Xt.pub {F H F1 H1 : Hp} {p : Addr} {o : HO} (x : Xt F H F1 H1) (h : H p = none) (hf : F1 p = none) (e : H1 p = some o) : Xt F H (upd F1 p o) H1 where
  ff := x.ff.trans (same_new hf)
  sub := fun b u q => by
    by_cases hb : b = p
    · subst hb
      rw [upd_same] at q
      rw [← Option.some.inj q]
      exact e
    · rw [upd_ne hb] at q
      exact x.sub b u q
  hh := x.hh
  fr := fun b q n => by
    have hb : b ≠ p := fun z => n (by rw [z]; exact h)
    rw [upd_ne hb]
    exact x.fr b q n
  fh := x.fh
/-- all that is new, and all tuples, are read from now on -/
def allT (F1 H1 H2 : Hp) : Hp := fun b => match H1 b with
  | none => H2 b
  | some (.tup xs) => some (.tup xs)
  | some _ => F1 b
theorem allT_new {F1 H1 H2 : Hp} {b : Addr} {o : HO} (h : H1 b = none) (e : H2 b = some o) : allT F1 H1 H2 b = some o := by
  unfold allT
  rw [h]
  exact e
theorem allT_tup {F1 H1 H2 : Hp} {b : Addr} {xs : List V} (s : Same H1 H2) (e : H2 b = some (.tup xs)) : allT F1 H1 H2 b = some (.tup xs) := by
  unfold allT
  cases h : H1 b with
  | none => exact e
  | some o =>
    have := (s _ _ h).symm.trans e
    cases this
    rfl
theorem Xt.all {F H F1 H1 H2 : Hp} (x : Xt F H F1 H1) (s : Same H1 H2) : Xt F H (allT F1 H1 H2) H2 := by
  have f1 : Same F1 (allT F1 H1 H2) := fun b o e => by
    have h := x.sub _ _ e
    unfold allT
    rw [h]
    cases o <;> first | rfl | exact e
  refine ⟨x.ff.trans f1, fun b o e => ?_, x.hh.trans s, fun b e n => ?_, x.fh⟩
  · unfold allT at e
    cases h : H1 b with
    | none =>
      rw [h] at e
      exact e
    | some u =>
      rw [h] at e
      cases u <;> first | exact (s _ _ h).trans e | exact s _ _ (x.sub _ _ e)
  · rcases x.fr b e n with z | z
    · cases h : H b with
      | none => exact absurd h n
      | some o =>
        have h1 := x.hh _ _ h
        unfold allT
        rw [h1]
        cases o <;> first | exact .inl z | exact .inr ⟨_, rfl⟩
    · exact .inr z
theorem Xt.fH {F H F' H' : Hp} (x : Xt F H F' H') : Same F H' := x.ff.trans x.sub
theorem sm_t {K : PySem.W.Frag} {H H' : Hp} {a : Addr} {xs : List V} (e : Same H H') (h : SqT K H a xs) : SqT K H' a xs := by
  rcases h with (h | ⟨o, h⟩) | h
  · exact .inl (.inl (e _ _ h))
  · exact .inl (.inr ⟨o, e _ _ h⟩)
  · exact .inr h
theorem Xt.sl {K : PySem.W.Frag} {F H F' H' : Hp} {a : Addr} {xs : List V} (x : Xt F H F' H') (h : SqL K F a xs) : SqL K H' a xs := x.fH.seq h
theorem Xt.stt {K : PySem.W.Frag} {F H F' H' : Hp} {a : Addr} {xs : List V} (x : Xt F H F' H') (h : SqT K F a xs) : SqT K H' a xs := sm_t x.fH h
/-- a list of one's own -/
structure Own (F H F1 H1 : Hp) (l : Addr) (acc : List V) : Prop where
  x : Xt F H F1 H1
  f : F1 l = none
  h : H l = none
  e : H1 l = some (.lst acc)
section
variable {F H F1 H1 F2 H2 : Hp} {l : Addr} {acc acc' : List V}
theorem Own.mk' (x : Xt F H F1 H1) (hp : H1 l = none) : Own F H F1 (upd H1 l (.lst acc)) l acc := ⟨x.newH hp, x.sub.free hp, x.hh.free hp, upd_same⟩
theorem Own.new (fh : Same F H) (hp : H l = none) : Own F H F (upd H l (.lst acc)) l acc := Own.mk' (Xt.refl fh) hp
theorem Own.step (o : Own F H F1 H1 l acc) (x : Xt F1 H1 F2 H2) : Own F H F2 H2 l acc := ⟨o.x.trans x, x.frL o.f o.e, o.h, x.hh _ _ o.e⟩
theorem Own.set (o : Own F H F1 H1 l acc) : Own F H F1 (upd H1 l (.lst acc')) l acc' := ⟨o.x.put o.h o.f, o.f, o.h, upd_same⟩
theorem Own.fin (o : Own F H F1 H1 l acc) : Xt F H (upd F1 l (.lst acc)) H1 := o.x.pub o.h o.f o.e
theorem Own.ff (o : Own F H F1 H1 l acc) : Same F1 (upd F1 l (.lst acc)) := same_new o.f
end
/-! ### what a value stands for -/
/-- a relation that new things leave as it is -/
class Mono {α : Type} (R : Hp → V → α → Prop) : Prop where
  mono : ∀ {F F' : Hp} {v : V} {x : α}, Same F F' → R F v x → R F' v x
def IntR : Hp → V → Int → Prop := fun _ v i => v = .int i
def BoolR : Hp → V → Bool → Prop := fun _ v i => v = .bl i
/-- the things in order -/
inductive All2 {α β : Type} (R : α → β → Prop) : List α → List β → Prop
  | nil : All2 R [] []
  | cons {a : α} {b : β} {as : List α} {bs : List β} : R a b → All2 R as bs → All2 R (a :: as) (b :: bs)
section
variable {α β γ : Type} {R : α → β → Prop}
theorem All2.length {as : List α} {bs : List β} (h : All2 R as bs) : as.length = bs.length := by
  induction h with
  | nil => rfl
  | cons _ _ ih => exact congrArg Nat.succ ih
theorem All2.imp {S : α → β → Prop} {as : List α} {bs : List β} (h : All2 R as bs) (f : ∀ a b, R a b → S a b) : All2 S as bs := by
  induction h with
  | nil => exact .nil
  | cons r _ ih => exact .cons (f _ _ r) ih
theorem All2.append {as as' : List α} {bs bs' : List β} (h : All2 R as bs) (h' : All2 R as' bs') : All2 R (as ++ as') (bs ++ bs') := by
  induction h with
  | nil => exact h'
  | cons r _ ih => exact .cons r ih
theorem All2.snoc {as : List α} {bs : List β} {a : α} {b : β} (h : All2 R as bs) (r : R a b) : All2 R (as ++ [a]) (bs ++ [b]) := h.append (.cons r .nil)
theorem All2.get {as : List α} {bs : List β} (h : All2 R as bs) : ∀ {i : Nat} {b : β}, bs[i]? = some b → ∃ a, as[i]? = some a ∧ R a b := by
  induction h with
  | nil => intro i b e; cases e
  | cons r _ ih =>
    intro i b e
    cases i with
    | zero => cases e; exact ⟨_, rfl, r⟩
    | succ i => exact ih e
theorem All2.getL {as : List α} {bs : List β} (h : All2 R as bs) : ∀ {i : Nat} {a : α}, as[i]? = some a → ∃ b, bs[i]? = some b ∧ R a b := by
  induction h with
  | nil => intro i b e; cases e
  | cons r _ ih =>
    intro i b e
    cases i with
    | zero => cases e; exact ⟨_, rfl, r⟩
    | succ i => exact ih e
theorem All2.take {as : List α} {bs : List β} (h : All2 R as bs) : ∀ n, All2 R (as.take n) (bs.take n) := by
  induction h with
  | nil => intro n; simp; exact .nil
  | cons r _ ih =>
    intro n
    cases n with
    | zero => exact .nil
    | succ n => exact .cons r (ih n)
theorem All2.of_map {f : β → α} : ∀ {bs : List β}, (∀ b ∈ bs, R (f b) b) → All2 R (bs.map f) bs
  | [], _ => .nil
  | b :: bs, h => .cons (h b List.mem_cons_self) (All2.of_map fun c hc => h c (List.mem_cons_of_mem _ hc))
theorem All2.eq_map {f : β → α} (hR : ∀ a b, R a b → a = f b) {as : List α} {bs : List β} (h : All2 R as bs) : as = bs.map f := by
  induction h with
  | nil => rfl
  | cons r _ ih => rw [hR _ _ r, ih, List.map_cons]
theorem All2.mapR {S : α → γ → Prop} {f : β → γ} {as : List α} {bs : List β} (h : All2 R as bs) (g : ∀ a b, R a b → S a (f b)) : All2 S as (bs.map f) := by
  induction h with
  | nil => exact .nil
  | cons r _ ih => exact .cons (g _ _ r) ih
end
section
variable {α β γ δ : Type} (K : PySem.W.Frag)
def LstR (R : Hp → V → α → Prop) : Hp → V → List α → Prop := fun F v xs => ∃ a vs, v = .ref a ∧ SqL K F a vs ∧ All2 (R F) vs xs
def Tup2 (R : Hp → V → α → Prop) (S : Hp → V → β → Prop) : Hp → V → α × β → Prop := fun F v x => ∃ a v1 v2, v = .ref a ∧ SqT K F a [v1, v2] ∧ R F v1 x.1 ∧ S F v2 x.2
/-- a tuple of ints -/
def TupI : Hp → V → List Int → Prop := fun F v xs => ∃ a, v = .ref a ∧ SqT K F a (xs.map .int)
end
/-- a list as it was laid -/
def LstX {α : Type} (R : Hp → V → α → Prop) : Hp → V → List α → Prop := fun F v xs => ∃ a vs, v = .ref a ∧ F a = some (.lst vs) ∧ All2 (R F) vs xs
theorem LstX.lst {α : Type} {K : PySem.W.Frag} {R : Hp → V → α → Prop} {F : Hp} {v : V} {xs : List α} (h : LstX R F v xs) : LstR K R F v xs := by
  obtain ⟨a, vs, e, h, r⟩ := h
  exact ⟨a, vs, e, SqL.of h, r⟩
theorem sm_rd {H H' : Hp} {a : Addr} {u : HO} (e : Same H H') (h : Rd H a u) : Rd H' a u := by
  rcases h with h | ⟨o, h⟩
  · exact .inl (e _ _ h)
  · exact .inr ⟨o, e _ _ h⟩
instance : Mono IntR := ⟨fun _ h => h⟩
instance : Mono BoolR := ⟨fun _ h => h⟩
section
variable {α β : Type} {K : PySem.W.Frag} {R : Hp → V → α → Prop} {S : Hp → V → β → Prop}
instance [Mono R] : Mono (LstR K R) := ⟨fun s h => by
  obtain ⟨a, vs, e, q, r⟩ := h
  exact ⟨a, vs, e, s.seq q, r.imp fun _ _ => Mono.mono s⟩⟩
instance [Mono R] : Mono (LstX R) := ⟨fun s h => by
  obtain ⟨a, vs, e, q, r⟩ := h
  exact ⟨a, vs, e, s _ _ q, r.imp fun _ _ => Mono.mono s⟩⟩
instance [Mono R] [Mono S] : Mono (Tup2 K R S) := ⟨fun s h => by
  obtain ⟨a, v1, v2, e, q, r1, r2⟩ := h
  exact ⟨a, v1, v2, e, sm_t s q, Mono.mono s r1, Mono.mono s r2⟩⟩
instance : Mono (TupI K) := ⟨fun s h => by
  obtain ⟨a, e, q⟩ := h
  exact ⟨a, e, sm_t s q⟩⟩
theorem Xt.mono {F H F' H' : Hp} (x : Xt F H F' H') [Mono R] {v : V} {y : α} (h : R F v y) : R F' v y := Mono.mono x.ff h
theorem sm_mo {F F' : Hp} (x : Same F F') [Mono R] {v : V} {y : α} (h : R F v y) : R F' v y := Mono.mono x h
abbrev ILst (K : PySem.W.Frag) : Hp → V → List Int → Prop := LstR K IntR
theorem all2_int {vs : List V} {xs : List Int} {F : Hp} (h : All2 (IntR F) vs xs) : vs = xs.map .int := h.eq_map fun _ _ e => e
theorem int_all2 {xs : List Int} {F : Hp} : All2 (IntR F) (xs.map V.int) xs := All2.of_map fun _ _ => rfl
theorem ilst_of {F : Hp} {a : Addr} {xs : List Int} (h : SqL K F a (xs.map .int)) : ILst K F (.ref a) xs := ⟨a, _, rfl, h, int_all2⟩
theorem ilst_to {F : Hp} {v : V} {xs : List Int} (h : ILst K F v xs) : ∃ a, v = .ref a ∧ SqL K F a (xs.map .int) := by
  obtain ⟨a, vs, e, q, r⟩ := h
  exact ⟨a, e, all2_int r ▸ q⟩
end
end Wp


set_option Elab.async false
set_option linter.all false
set_option maxRecDepth 100000
set_option maxHeartbeats 4000000
namespace Wp
open PySem PySem.Spec PyProof.Rows L2
/-! ### a def that keeps its promise -/
structure Ok (P : Program) (w : World) (K : PySem.W.Frag) (mg : Str → Option Value) (base : Heap) (k : Nat) (f : Addr) (sp : Sp) : Prop where
  ex : ∃ fd ps, Binds K fd ps [] ∧ FnOk P w K mg base CX0 k f fd ps sp
  kp : PySem.W.keepIn K (.ref f) = true
section
variable {P : Program} {w : World} {K : PySem.W.Frag} {mg : Str → Option Value} {base : Heap} {j k : Nat} {f : Addr} {sp sp' : Sp}
theorem Ok.mono (G : Ok P w K mg base j f sp) (h : j ≤ k) : Ok P w K mg base k f sp := by
  obtain ⟨⟨fd, ps, b, F⟩, kp⟩ := G
  exact ⟨⟨fd, ps, b, F.mono h⟩, kp⟩
theorem Ok.imp (G : Ok P w K mg base k f sp) (h : ∀ vs H Q E, sp' vs H Q E → sp vs H Q E) : Ok P w K mg base k f sp' := by
  obtain ⟨⟨fd, ps, b, F⟩, kp⟩ := G
  exact ⟨⟨fd, ps, b, F.imp h⟩, kp⟩
theorem Ok.raw (G : Ok P w K mg base k f sp) : FnR P w K mg base CX0 k f sp := by
  obtain ⟨⟨fd, ps, b, F⟩, kp⟩ := G
  exact (F.raw b .nil).imp fun vs H Q E h => by
    rw [List.append_nil]
    exact h
theorem Ok.of {x qual : Str} {params : Arguments} {body : List Stmt} {scope : Scope} {dvs : List V} {N ps : List Str} (h : ∃ fd, FunD K x qual params body scope dvs [] f fd) (b : ∀ {fd}, FunD K x qual params body scope dvs [] f fd → Binds K fd ps [])
    (S : FnScope N ps scope) (len : ∀ vs H Q E, sp vs H Q E → vs.length = ps.length)
    (hbody : ∀ (cdv : Value) (A : Around) (outer : List Env) (s : Shared) (H : Hp) (vs : List V) (Q : VK) (E : XK), Room k (A.deeper (envOfC qual scope s.heap.objs.size f cdv)) → sp vs H Q E →
      ∃ t, PSs (cxOf CX0 P w K mg base N qual scope f cdv A outer s H E).nox body t ∧ ∀ σ, σ = start N vs → t { nx := fun _ H' => Q .non H', rt := Q } σ H) : Ok P w K mg base (k + 1) f sp := by
  obtain ⟨fd, F⟩ := h
  refine ⟨⟨fd, ps, b F, F.ok S len fun cdv A outer s H vs Q E hr hsp => ?_⟩, F.kp⟩
  obtain ⟨t, p, q⟩ := hbody cdv A outer s H vs Q E hr hsp
  exact ⟨t, p.nox, q _ rfl⟩
end
/-! ### calls -/
def tCl (sp : Sp) (t : TA) : TE := fun σ H Q => t σ H fun vs H1 => sp vs H1 Q E0
def tMk (C : Addr) (sp : Sp) (t : TA) : TE := fun σ H Q => t σ H fun vs H1 => ∀ x dx, H1 x = none → H1 dx = none → dx ≠ x → sp (.ref x :: vs) (upd (upd H1 dx (.own x)) x (.ins C dx [])) (fun v H2 => v = .non ∧ Q (.ref x) H2) E0
/-- x is an instance, m a method of it, its def at f -/
def IsMe (K : PySem.W.Frag) (x : V) (H : Hp) (m : Str) (f : Addr) : Prop := (∃ a C dx fs, x = .ref a ∧ H a = some (.ins C dx fs) ∧ Cls K C ∧ Meth K C m f ∧ fs.lookup m = none) ∨
  (∃ a C dx vs, x = .ref a ∧ SlX.Slt H a C dx vs ∧ SlX.SCls K C ∧ Meth K C m f)
def tMe (P : Program) (w : World) (K : PySem.W.Frag) (mg : Str → Option Value) (base : Heap) (k : Nat) (m : Str) (ta : TE) (t : TA) : TE := fun σ H Q => ta σ H fun x H1 => ∃ f sp, IsMe K x H1 m f ∧ Ok P w K mg base k f sp ∧ t σ H1 fun vs H2 => sp (x :: vs) H2 Q E0
def rAt (K : PySem.W.Frag) (f : Str) : V → Hp → VK → Prop := fun x H Q => (∃ a C dx fs v, x = .ref a ∧ H a = some (.ins C dx fs) ∧ Cls K C ∧ NoAttr K C f ∧ fs.lookup f = some v ∧ Q v H) ∨
  (∃ a C dx p vs i v, x = .ref a ∧ SlX.Slt H a C dx vs ∧ SlX.SCls K C ∧ SlX.Slot1 K C f p i ∧ vs[i]? = some (some v) ∧ Q v H)
def tAt (K : PySem.W.Frag) (ta : TE) (f : Str) : TE := fun σ H Q => ta σ H fun x H1 => rAt K f x H1 Q
section
variable {X : Cx} {k : Nat} {f C : Addr} {sp : Sp} {x m : Str} {p pos apos : Pos} {e o : Expr} {es : List Expr} {ta : TE} {t : TA}
theorem pe_cl (G : Ok X.prog X.w X.K X.mg X.base k f sp) (hr : Room k X.A) (hg : Gl X x) (hm : X.mg x = some (.ref f)) (ha : PA X (e :: es) t) (hdb : (x == ("__debug__" : Str)) = false := by decide)
    (he : starEach (e :: es) X.env = (false, eval e X.env) :: starEach es X.env := by rfl) (hpl : (backTo pos (starEach es X.env)).any (·.1) = false := by rfl) : PE X (.Call (.Name x p) (e :: es) [] pos) (tCl sp t) := by
  obtain ⟨⟨fd, ps, b, F⟩, kp⟩ := G
  have h := pe_call (p := p) (pos := pos) F hr hg hm kp b .nil pass0 ha hdb he hpl
  have e : tCall sp [] E0 t = tCl sp t := by
    funext σ H Q
    unfold tCall tCl
    simp only [List.append_nil]
  rw [← e]
  exact h
theorem pe_mk (M : Mk X.K C f) (G : Ok X.prog X.w X.K X.mg X.base k f sp) (hr : Room (k + 1) X.A) (hg : Gl X x) (hm : X.mg x = some (.ref C)) (ha : PA X (e :: es) t) (hdb : (x == ("__debug__" : Str)) = false := by decide)
    (he : starEach (e :: es) X.env = (false, eval e X.env) :: starEach es X.env := by rfl) (hpl : (backTo pos (starEach es X.env)).any (·.1) = false := by rfl) : PE X (.Call (.Name x p) (e :: es) [] pos) (tMk C sp t) := by
  obtain ⟨⟨fd, ps, b, F⟩, kp⟩ := G
  have h := pe_make (p := p) (pos := pos) M F hr hg hm b .nil pass0 ha hdb he hpl
  have e : tMake C sp [] E0 t = tMk C sp t := by
    funext σ H Q
    unfold tMake tMk
    simp only [List.append_nil]
  rw [← e]
  exact h
theorem me_kp {H : Hp} {v : V} (hm : IsMe X.K v H m f) : PySem.W.keepIn X.K (.ref f) = true := by
  rcases hm with ⟨a, C, dx, fs, rfl, ea, c, hm, l⟩ | ⟨a, C, dx, vs, rfl, hs, c, hm⟩
  · exact hm.kp
  · exact hm.kp
theorem me_get {pins : List (Addr × Obj)} {σ : L2.St} {H : Hp} {s : Shared} {A : Around} {E : Value → Shared → Prop} {v : V} {u : Value} {pl : Sem Bool} {Q : Value × List Value → Shared → Prop} (I : Inv X pins σ H s) (r : RelV v u) (hm : IsMe X.K v H m f)
    (q : Q (.ref f, [u]) s) : wpAny (model X.prog X.w) A (getMethod u m pl) Q E s := by
  rcases hm with ⟨a, C, dx, fs, rfl, ea, c, hm, l⟩ | ⟨a, C, dx, vs, rfl, hs, c, hm⟩
  · cases r
    exact getmeth_ok I ea c hm l q
  · cases r
    exact SlX.getmethsl_ok I hs c hm q
theorem pe_me {pl : Sem Bool} (hr : Room k X.A) (he : PE X o ta) (ha : PA X (e :: es) t)
    (hst : starEach (e :: es) X.env = (false, eval e X.env) :: starEach es X.env := by rfl) (hpl : (backTo pos (starEach es X.env)).any (·.1) = false := by rfl)
    (ht : eval (.Call (.Attribute o m apos) (e :: es) [] pos) X.env = (do
      let ov ← eval o X.env
      standAt apos.atName
      let (f, first) ← holding [ov] (getMethod ov m pl)
      callWith pos f first (backTo pos (starEach (e :: es) X.env)) (backToKw pos (keywordEach [] X.env))) := by rfl) :
    PE X (.Call (.Attribute o m apos) (e :: es) [] pos) (tMe X.prog X.w X.K X.mg X.base k m ta t) := by
  refine ⟨fun pins s σ H Q I h => ?_⟩
  refine PySem.W.methodCall_KW (pl := pl) (thn (he.run pins s σ H _ I h) fun u s1 ⟨x, H1, I1, rx, f, sp, im, G, q⟩ => ?_) ht
  have kp := me_kp im
  refine me_get I1 rx im ?_
  refine PySem.W.callWith_K (first := [u]) (h₀ := X.base) I.ok.mod.kin kp (thn (ha.run pos pins s1 σ H1 _ I1 q) fun us s2 ⟨vs, H2, I2, r, q2⟩ => ⟨I2.kIn, ?_⟩) hst hpl
  obtain ⟨⟨fd, ps, b, F⟩, _⟩ := G
  exact run_fn (us := u :: us) (vs := x :: vs) F hr b .nil pass0 I2 (.cons rx r) (by rw [List.append_nil]; exact q2)
theorem pe_me0 {pl : Sem Bool} (hr : Room k X.A) (he : PE X o ta)
    (ht : eval (.Call (.Attribute o m apos) [] [] pos) X.env = (do
      let ov ← eval o X.env
      standAt apos.atName
      let (f, first) ← holding [ov] (getMethod ov m pl)
      callWith pos f first (backTo pos (starEach [] X.env)) (backToKw pos (keywordEach [] X.env))) := by rfl) :
    PE X (.Call (.Attribute o m apos) [] [] pos) (tMe X.prog X.w X.K X.mg X.base k m ta tNil) := by
  refine ⟨fun pins s σ H Q I h => ?_⟩
  refine PySem.W.methodCall_KW (pl := pl) (thn (he.run pins s σ H _ I h) fun u s1 ⟨x, H1, I1, rx, f, sp, im, G, q⟩ => ?_) ht
  have kp := me_kp im
  refine me_get I1 rx im ?_
  obtain ⟨⟨fd, ps, b, F⟩, _⟩ := G
  exact PySem.W.callWith_K0 (first := [u]) I1.kIn kp (run_fn (us := [u]) (vs := [x]) F hr b .nil pass0 I1 (.cons rx .nil) q)
/-- C.m(..), C a class, m a plain def of it -/
theorem pe_cm {pl : Sem Bool} {mc : Value} (G : Ok X.prog X.w X.K X.mg X.base k f sp) (hr : Room k X.A) (hg : Gl X x) (hm : X.mg x = some (.ref C)) (rd : ClX.CRead X.K C mc) (cv : ClX.CVal X.K C mc m (.ref f) (.ref f)) (ha : PA X (e :: es) t)
    (hst : starEach (e :: es) X.env = (false, eval e X.env) :: starEach es X.env := by rfl) (hpl : (backTo pos (starEach es X.env)).any (·.1) = false := by rfl)
    (ht : eval (.Call (.Attribute (.Name x p) m apos) (e :: es) [] pos) X.env = (do
      let ov ← eval (.Name x p) X.env
      standAt apos.atName
      let (f, first) ← holding [ov] (getMethod ov m pl)
      callWith pos f first (backTo pos (starEach (e :: es) X.env)) (backToKw pos (keywordEach [] X.env))) := by rfl) (hdb : (x == ("__debug__" : Str)) = false := by decide) :
    PE X (.Call (.Attribute (.Name x p) m apos) (e :: es) [] pos) (tCl sp t) := by
  refine ⟨fun pins s σ H Q I h => ?_⟩
  refine PySem.W.methodCall_KW (pl := pl) (ld_glob I hg hm ?_ hdb) ht
  refine PySem.W.method_cls I.kIn rd.ga (ClX.getcval_ok I rd cv fun s1 I1 => ?_)
  refine PySem.W.callWith_K (first := []) (h₀ := X.base) I.ok.mod.kin G.kp (thn (ha.run pos pins s1 σ H _ I1 h) fun us s2 ⟨vs, H2, I2, r, q2⟩ => ⟨I2.kIn, ?_⟩) hst hpl
  obtain ⟨⟨fd, ps, b, F⟩, _⟩ := G
  exact run_fn (us := us) (vs := vs) F hr b .nil pass0 I2 r (by rw [List.append_nil]; exact q2)
theorem pe_at {g : Str} (he : PE X e ta) (hb : attributeBase e g X.env (eval e X.env) = eval e X.env := by rfl) : PE X (.Attribute e g pos) (tAt X.K ta g) := by
  refine ⟨fun pins s σ H Q I h => ?_⟩
  refine attr_of hb (thn (he.run pins s σ H _ I h) fun u s1 ⟨x, H1, I1, rx, q⟩ => ?_)
  rcases q with ⟨a, C, dx, fs, v, ex, ea, c, n, l, q⟩ | ⟨a, C, dx, p, vs, i, v, ex, hs, c, t, l, q⟩
  · subst ex
    obtain rfl : u = Value.ref a := rx
    exact getattr_ok I1 ea c n l fun u' s2 I2 ru => ⟨v, H1, I2, ru, q⟩
  · subst ex
    obtain rfl : u = Value.ref a := rx
    exact SlX.getslot_ok I1 hs c t l fun u' s2 I2 ru => ⟨v, H1, I2, ru, q⟩
/-- o.f = .. -/
def gAt (K : PySem.W.Frag) (ta : TE) (g : Str) : TG := fun y σ H Q => ta σ H fun x H2 => (∃ a C dx fs, x = .ref a ∧ H2 a = some (.ins C dx fs) ∧ Cls K C ∧ NoAttr K C g ∧ fs.length < 1000 ∧ Q σ (upd H2 a (.ins C dx (putF g y fs)))) ∨
  (∃ a C dx p vs i, x = .ref a ∧ SlX.Slt H2 a C dx vs ∧ SlX.SCls K C ∧ SlX.Slot1 K C g p i ∧ Q σ (SlX.slH H2 a C dx (SlX.putS i y vs)))
theorem pg_at {g : Str} (ho : PE X o ta) : PG X (.Attribute o g pos) (gAt X.K ta g) := by
  refine ⟨fun pins s σ H v u Q I r h => ?_⟩
  rw [assign_Attribute]
  refine wpAny_bind (wpAny_holding (thn (ho.run pins s σ H _ I h) fun ov s1 ⟨x, H1, I1, rx, q⟩ => ?_))
  refine wpAny_bind (wpAny_standAt (wpAny_bind (wpAny_holding ?_)))
  rcases q with ⟨a, C, dx, fs, ex, ea, c, n, l, q⟩ | ⟨a, C, dx, p, vs, i, ex, hs, c, t, q⟩
  · subst ex
    obtain rfl : ov = Value.ref a := rx
    exact setattr_ok I1 ea c n l r fun s2 I2 => wpAny_release ⟨σ, _, I2, q⟩
  · subst ex
    obtain rfl : ov = Value.ref a := rx
    exact SlX.setslot_ok I1 hs c t r fun s2 I2 => wpAny_release ⟨σ, _, I2, q⟩
theorem pe_never : PE X e fun _ _ _ => False := ⟨fun _ _ _ _ _ _ h => h.elim⟩
theorem pe_globI {n : Int} (hg : Gl X x) (hm : ∃ t, X.mg x = some (.int n t)) (hdb : (x == ("__debug__" : Str)) = false := by decide) : PE X (.Name x pos) (tC (.int n)) := by
  obtain ⟨t, hm⟩ := hm
  exact pe_glob hg hm ⟨t, rfl⟩ hdb
/-- K told apart: within a comprehension -/
theorem pg_tupK {K : PySem.W.Frag} {ts : List Expr} {kk : Nat} {t : TGs} {n : Nat} (hc : X.calm = true) (hK : X.K = K) (h : PGs X ts t) (hn : (assignEach ts X.env).length = n := by rfl) (hst : (assignEach ts X.env).findIdx? (·.1) = none := by rfl) : PG X (.Tuple ts kk pos) (gTup K n t) := by
  subst hK
  exact pg_tup hc h hn hst
end
end Wp


set_option Elab.async false
set_option linter.all false
set_option maxRecDepth 100000
set_option maxHeartbeats 4000000
namespace Wp
open PySem PySem.Spec PyProof.Rows L2
/-! ### operators that take several kinds -/
def rAdd2 : R2 := fun x y H Q => rI0 (fun i j => .int (i + j)) x y H Q ∨ rCat x y H Q
def rMul2 : R2 := fun x y H Q => rI CMul (fun i j => .int (i * j)) x y H Q ∨ rRep x y H Q
def rEq2 (K : PySem.W.Frag) : R2 := fun x y H Q => rEq x y H Q ∨ rEqD K x y H Q
def rNe2 (K : PySem.W.Frag) : R2 := fun x y H Q => rNe x y H Q ∨ rNeD K x y H Q
section
variable {X : Cx}
theorem op_add2 : OpR X (binaryOp .Add) rAdd2 := op_add.or op_cat
theorem op_mul2 : OpR X (binaryOp .Mult) rMul2 := op_mul.or op_rep
theorem op_eq2 {k : Nat} (hr : Room k X.A) : OpR X (compareOp .Eq) (rEq2 X.K) := op_eq.or (op_eqD hr.units)
theorem op_ne2 {k : Nat} (hr : Room k X.A) : OpR X (compareOp .NotEq) (rNe2 X.K) := op_ne.or (op_neD hr.units)
/-- xs[i], the value alone -/
theorem get_list : PGet X (rIxL X.K) := by
  intro pins s σ H o i ov iv Q I ro ri h
  obtain ⟨p, xs, k, z, rfl, rfl, hq, he, q⟩ := h
  cases ro
  obtain ⟨t, rfl⟩ := ri
  obtain ⟨its, r, pl, hz⟩ := I.list hq
  obtain ⟨j, h1, h2, h3, h4, h5⟩ := atI_get he
  obtain ⟨w, ew, rw'⟩ := r.get h2
  have hl := r.length
  have hn := line63
  have fin : EP X pins σ Q w s := ⟨z, H, I, rw', q⟩
  by_cases h0 : 0 ≤ k
  · have hj : k.toNat = j := by
      rw [seqIndex_of h0 h5] at h1
      exact Option.some.inj h1
    exact wpAny_getItem_list pl.isList h0 (by omega) (by rw [hj]; simpa using ew) fin
  · have hj : (k + (its.toArray.size : Int)).toNat = j := by
      rw [seqIndex_neg (by omega) h4] at h1
      rw [List.size_toArray, ← hl]
      exact Option.some.inj h1
    exact wpAny_getItem_list_neg pl.isList (by omega) (by rw [List.size_toArray] <;> omega) (by omega) (by rw [hj]; simpa using ew) fin
end
/-! ### built-ins by names -/
def rAbs : List V → Hp → VK → Prop := fun xs H Q => ∃ i, xs = [.int i] ∧ Q (.int (if i < 0 then -i else i)) H
def rMax2 : List V → Hp → VK → Prop := fun xs H Q => ∃ i j, xs = [.int i, .int j] ∧ Q (.int (if j > i then j else i)) H
def rInt1 : List V → Hp → VK → Prop := fun xs H Q => (∃ i, xs = [.int i] ∧ Q (.int i) H) ∨ ∃ k, xs = [.bl k] ∧ Q (.int (if k then 1 else 0)) H
def rLen (K : PySem.W.Frag) : List V → Hp → VK → Prop := fun xs H Q => ∃ p ys, xs = [.ref p] ∧ (SqL K H p ys ∨ SqT K H p ys) ∧ Q (.int (ys.length : Nat)) H
def rListOf (K : PySem.W.Frag) : List V → Hp → VK → Prop := fun xs H Q => ∃ p ys, xs = [.ref p] ∧ (SqL K H p ys ∨ SqT K H p ys) ∧ ∀ l, H l = none → Q (.ref l) (upd H l (.lst ys))
def rDivmod : List V → Hp → VK → Prop := fun xs H Q => ∃ i j, xs = [.int i, .int j] ∧ CDiv i j ∧ ∀ p, H p = none → Q (.ref p) (upd H p (.tup [.int (i / j), .int (i % j)]))
def rIsN : R2 := fun x y H Q => y = .non ∧ Q (.bl (decide (x = .non))) H
def rNotN : R2 := fun x y H Q => y = .non ∧ Q (.bl (!decide (x = .non))) H
section
variable {X : Cx}
theorem call_absN : CallR X (.builtin "abs") rAbs := call_abs
theorem call_maxN (hc : X.calm = true) : CallR X (.builtin "max") rMax2 := call_max2 hc
theorem call_intN : CallR X (.type "int") rInt1 := call_int1
theorem call_lenN : CallR X (.builtin "len") (rLen X.K) := call_len_seq
theorem call_listN : CallR X (.type "list") (rListOf X.K) := call_list_of
theorem call_divmodN : CallR X (.builtin "divmod") rDivmod := call_divmod
theorem op_isNN : OpR X (compareOp .Is) rIsN := op_isN
theorem op_notNN : OpR X (compareOp .IsNot) rNotN := op_notN
end
theorem abs_if (a : Int) : (if a < 0 then -a else a) = (a.natAbs : Int) := by
  split <;> omega
theorem max_if (a b : Int) : (if b > a then b else a) = max a b := by
  split <;> omega
def wAt (K : PySem.W.Frag) (g : Str) (y : V) (σ : L2.St) (Q : L2.St → Hp → Prop) (x : V) (H2 : Hp) : Prop := (∃ a C dx fs, x = .ref a ∧ H2 a = some (.ins C dx fs) ∧ Cls K C ∧ NoAttr K C g ∧ fs.length < 1000 ∧ Q σ (upd H2 a (.ins C dx (putF g y fs)))) ∨
  (∃ a C dx p vs i, x = .ref a ∧ SlX.Slt H2 a C dx vs ∧ SlX.SCls K C ∧ SlX.Slot1 K C g p i ∧ Q σ (SlX.slH H2 a C dx (SlX.putS i y vs)))
/-! ### readings, step by step -/
section
variable {σ σ' : L2.St} {H : Hp} {Q : VK} {QS : L2.St → Hp → Prop} {i j : Nat} {v x y : V} {ta tb te : TE} {t u : TS} {ts : TA} {c d : TT} {D : Ends} {K : PySem.W.Frag} {m n : Int} {QB : Bool → Hp → Prop} {QA : List V → Hp → Prop}
theorem rd_var (h : σ[i]? = some (some v)) (q : Q v H) : tVar i σ H Q := ⟨v, h, q⟩
theorem rd_c (q : Q v H) : tC v σ H Q := q
theorem rd_op {r : R2} (h : ta σ H fun x H1 => tb σ H1 fun y H2 => r x y H2 Q) : tOp r ta tb σ H Q := h
theorem rd_un {r : V → Hp → VK → Prop} (h : ta σ H fun x H1 => r x H1 Q) : tUn r ta σ H Q := h
theorem rd_test (h : te σ H fun x H' => ∃ k, x = .bl k ∧ QB k H') : tTest te σ H QB := h
theorem rd_B (h : te σ H fun x H' => ∃ k, x = .bl k ∧ QB k H') : tB te σ H QB := h
theorem rd_bl {b : Bool} {QC : Bool → Prop} (q : QC b) : ∃ k, V.bl b = .bl k ∧ QC k := ⟨b, rfl, q⟩
theorem rd_and (h : c σ H fun b H1 => if b = true then d σ H1 QB else QB false H1) : tAnd c d σ H QB := h
theorem rd_or (h : c σ H fun b H1 => if b = true then QB true H1 else d σ H1 QB) : tOr c d σ H QB := h
theorem rd_not (h : c σ H fun b H1 => QB (!b) H1) : tNot c σ H QB := h
theorem rd_andV (h : ta σ H fun x H1 => ∃ c, x = .bl c ∧ if c = true then tb σ H1 Q else Q (.bl false) H1) : tAndV ta tb σ H Q := h
theorem rd_orV (h : ta σ H fun x H1 => ∃ c, x = .bl c ∧ if c = true then Q (.bl true) H1 else tb σ H1 Q) : tOrV ta tb σ H Q := h
theorem rd_notV (h : ta σ H fun x H1 => ∃ c, x = .bl c ∧ Q (.bl (!c)) H1) : tNotV ta σ H Q := h
theorem rd_ifE (h : c σ H fun b H1 => if b = true then ta σ H1 Q else tb σ H1 Q) : tIf c ta tb σ H Q := h
theorem rd_seq (h : t { D with nx := u D } σ H) : tSeq t u D σ H := h
theorem rd_asg {g : TG} (h : te σ H fun x H1 => g x σ H1 D.nx) : tAsg te g D σ H := h
theorem rd_name (e : σ.set i (some v) = σ') (q : QS σ' H) : gName i v σ H QS := by
  unfold gName
  rw [e]
  exact q
theorem rd_ret (h : te σ H D.rt) : tRet te D σ H := h
theorem rd_drop (h : te σ H fun _ H1 => D.nx σ H1) : tDrop te D σ H := h
theorem rd_if (h : c σ H fun b H1 => if b = true then t D σ H1 else u D σ H1) : tIfS c t u D σ H := h
theorem rd_next (h : D.nx σ H) : tNext D σ H := h
theorem rd_break (h : D.bk σ H) : tBreak D σ H := h
theorem rd_cont (h : D.ct σ H) : tCont D σ H := h
theorem rd_par (h : ts σ H fun vs H1 => ∃ v w, vs = [v, w] ∧ D.nx ((σ.set i (some v)).set j (some w)) H1) : tPar i j ts D σ H := h
theorem rd_par3 {l : Nat} (h : ts σ H fun vs H1 => ∃ u v w, vs = [u, v, w] ∧ D.nx (((σ.set i (some u)).set j (some v)).set l (some w)) H1) : tPar3 i j l ts D σ H := h
theorem rd_parQ (e : (σ.set i (some x)).set j (some y) = σ') (q : QS σ' H) : ∃ v w, [x, y] = [v, w] ∧ QS ((σ.set i (some v)).set j (some w)) H := ⟨x, y, rfl, by rw [e]; exact q⟩
theorem rd_par3Q {l : Nat} {z : V} (e : ((σ.set i (some x)).set j (some y)).set l (some z) = σ') (q : QS σ' H) : ∃ u v w, [x, y, z] = [u, v, w] ∧ QS (((σ.set i (some u)).set j (some v)).set l (some w)) H := ⟨x, y, z, rfl, by rw [e]; exact q⟩
theorem rd_cl {sp : Sp} (h : ts σ H fun vs H1 => sp vs H1 Q E0) : tCl sp ts σ H Q := h
theorem rd_cb {r : List V → Hp → VK → Prop} (h : ts σ H fun vs H1 => r vs H1 Q) : tCB r ts σ H Q := h
theorem rd_mk {C : Addr} {sp : Sp} (h : ts σ H fun vs H1 => ∀ x dx, H1 x = none → H1 dx = none → dx ≠ x → sp (.ref x :: vs) (upd (upd H1 dx (.own x)) x (.ins C dx [])) (fun v H2 => v = .non ∧ Q (.ref x) H2) E0) : tMk C sp ts σ H Q := h
theorem rd_cons (h : te σ H fun x H1 => ts σ H1 fun xs H2 => QA (x :: xs) H2) : tCons te ts σ H QA := h
theorem rd_nil (h : QA [] H) : tNil σ H QA := h
theorem rd_tup (h : ts σ H fun xs H1 => xs.length ≤ sizeLine ∧ ∀ p, H1 p = none → Q (.ref p) (upd H1 p (.tup xs))) : tTup ts σ H Q := h
theorem rd_lst (h : ts σ H fun xs H1 => xs.length ≤ sizeLine ∧ ∀ p, H1 p = none → Q (.ref p) (upd H1 p (.lst xs))) : tLst ts σ H Q := h
theorem rd_at {f : Str} (h : ta σ H fun x H1 => rAt K f x H1 Q) : tAt K ta f σ H Q := h
theorem rd_gAt {f : Str} (h : ta σ H fun x H1 => wAt K f y σ QS x H1) : gAt K ta f y σ H QS := h
theorem rd_retN (h : D.rt .non H) : tRetN D σ H := h
theorem rd_for {wi : TI} {g : TG} (h : wi σ H fun J H1 => ∃ W : Nat → Nat → L2.St → Hp → Prop, (∃ m, W 0 m σ H1) ∧ ∀ i m σ H, W i m σ H →
  (J.stop i H ∧ D.nx σ H) ∨ (J.go i H ∧ ∃ N : L2.St → Hp → Prop, (∀ σ' H', N σ' H' → ∃ m', m' < m ∧ W (i + 1) m' σ' H') ∧ ∀ x H', J.yld i H x H' → g x σ H' fun σ2 H2 => t { D with nx := N, ct := N, bk := D.nx } σ2 H2)) : tFor wi g t D σ H := h
-- operators on ints
theorem rd_I0 {g : Int → Int → V} (q : Q (g m n) H) : rI0 g (.int m) (.int n) H Q := ⟨m, n, rfl, rfl, q⟩
theorem rd_U {g : Int → V} (q : Q (g m) H) : rU g (.int m) H Q := ⟨m, rfl, q⟩
theorem rd_add (q : Q (.int (m + n)) H) : rAdd2 (.int m) (.int n) H Q := .inl ⟨m, n, rfl, rfl, q⟩
theorem rd_mul (h : CMul m n) (q : Q (.int (m * n)) H) : rMul2 (.int m) (.int n) H Q := .inl ⟨m, n, rfl, rfl, h, q⟩
theorem rd_I {C : Int → Int → Prop} {g : Int → Int → V} (h : C m n) (q : Q (g m n) H) : rI C g (.int m) (.int n) H Q := ⟨m, n, rfl, rfl, h, q⟩
theorem rd_eqI (q : Q (.bl (decide (m = n))) H) : rEq2 K (.int m) (.int n) H Q := .inl ⟨rfl, by
  rw [show decide (V.int m = V.int n) = decide (m = n) from decide_eq_decide.mpr ⟨V.int.inj, fun e => by rw [e]⟩]
  exact q⟩
theorem rd_neI (q : Q (.bl (!decide (m = n))) H) : rNe2 K (.int m) (.int n) H Q := .inl ⟨rfl, by
  rw [show decide (V.int m = V.int n) = decide (m = n) from decide_eq_decide.mpr ⟨V.int.inj, fun e => by rw [e]⟩]
  exact q⟩
theorem rd_eqB {a b : Bool} (q : Q (.bl (decide (a = b))) H) : rEq2 K (.bl a) (.bl b) H Q := .inl ⟨rfl, by
  rw [show decide (V.bl a = V.bl b) = decide (a = b) from decide_eq_decide.mpr ⟨V.bl.inj, fun e => by rw [e]⟩]
  exact q⟩
theorem rd_isN (q : Q (.bl (decide (x = .non))) H) : rIsN x .non H Q := ⟨rfl, q⟩
theorem rd_notN (q : Q (.bl (!decide (x = .non))) H) : rNotN x .non H Q := ⟨rfl, q⟩
theorem rd_abs (q : Q (.int (m.natAbs : Int)) H) : rAbs [.int m] H Q := ⟨m, rfl, by rw [abs_if]; exact q⟩
theorem rd_max (q : Q (.int (max m n)) H) : rMax2 [.int m, .int n] H Q := ⟨m, n, rfl, by rw [max_if]; exact q⟩
theorem rd_int (q : Q (.int m) H) : rInt1 [.int m] H Q := .inl ⟨m, rfl, q⟩
theorem rd_intB {b : Bool} (q : Q (.int (if b then 1 else 0)) H) : rInt1 [.bl b] H Q := .inr ⟨b, rfl, q⟩
theorem rd_lenL {p : Addr} {xs : List V} (h : SqL K H p xs) (q : Q (.int (xs.length : Nat)) H) : rLen K [.ref p] H Q := ⟨p, xs, rfl, .inl h, q⟩
theorem rd_lenT {p : Addr} {xs : List V} (h : SqT K H p xs) (q : Q (.int (xs.length : Nat)) H) : rLen K [.ref p] H Q := ⟨p, xs, rfl, .inr h, q⟩
theorem rd_listL {p : Addr} {xs : List V} (h : SqL K H p xs) (q : ∀ l, H l = none → Q (.ref l) (upd H l (.lst xs))) : rListOf K [.ref p] H Q := ⟨p, xs, rfl, .inl h, q⟩
theorem rd_divmod (h : CDiv m n) (q : ∀ p, H p = none → Q (.ref p) (upd H p (.tup [.int (m / n), .int (m % n)]))) : rDivmod [.int m, .int n] H Q := ⟨m, n, rfl, h, q⟩
theorem rd_sum {p : Addr} {ns : List Int} (h : SqL K H p (ns.map V.int)) (q : Q (.int ns.sum) H) : rSum K [.ref p] H Q := ⟨p, ns, rfl, h, q⟩
theorem rd_while (h : ∃ W : Nat → L2.St → Hp → Prop, (∃ m, W m σ H) ∧ ∀ m σ H, W m σ H →
  c σ H fun b H1 => if b = true then ∃ N : L2.St → Hp → Prop, (∀ σ' H', N σ' H' → ∃ m', m' < m ∧ W m' σ' H') ∧ t { D with nx := N, ct := N, bk := D.nx } σ H1 else D.nx σ H1) : tWhile c t D σ H := h
theorem rd_tupG {k : Nat} {t : TGs} {a : Addr} {xs : List V} (h : SqT K H a xs) (hl : xs.length = k) (q : t xs σ H QS) : gTup K k t (.ref a) σ H QS := ⟨a, xs, rfl, h, hl, q⟩
theorem rd_consG {t : TG} {u : TGs} {r : List V} (q : t v σ H fun σ' H' => u r σ' H' QS) : gCons t u (v :: r) σ H QS := ⟨v, r, rfl, q⟩
theorem rd_nilG (q : QS σ H) : gNil [] σ H QS := ⟨rfl, q⟩
theorem rd_aug {ti : TIp} (h : σ[i]? = some (some x)) (q : te σ H fun y H1 => ti x y H1 fun z H2 => D.nx (σ.set i (some z)) H2) : tAug i te ti D σ H := ⟨x, h, q⟩
theorem rd_bm {T : String} {r : V → List V → Hp → VK → Prop} (h : te σ H fun x H1 => tyV K T x H1 ∧ ts σ H1 fun xs H2 => r x xs H2 Q) : tBM K T r te ts σ H Q := h
theorem rd_bm0 {T : String} {r : V → List V → Hp → VK → Prop} (h : te σ H fun x H1 => tyV K T x H1 ∧ r x [] H1 Q) : tBM0 K T r te σ H Q := h
theorem ty_list {p : Addr} {xs : List V} (h : SqL K H p xs) : tyV K "list" (.ref p) H := .inl ⟨rfl, _, h⟩
theorem rd_append {l : Addr} {xs : List V} (h : H l = some (.lst xs)) (hl : xs.length < 1000) (q : Q .non (upd H l (.lst (xs ++ [y])))) : rAppend (.ref l) [y] H Q := ⟨l, xs, y, rfl, rfl, h, small1000 (Nat.le_of_lt hl), q⟩
theorem rd_me {P : Program} {w : World} {mg : Str → Option Value} {base : Heap} {k : Nat} {m : Str} (h : te σ H fun x H1 => ∃ f sp, IsMe K x H1 m f ∧ Ok P w K mg base k f sp ∧ ts σ H1 fun vs H2 => sp (x :: vs) H2 Q E0) : tMe P w K mg base k m te ts σ H Q := h
theorem rd_augS {to ti : TE} {tget : V → V → Hp → VK → Prop} {tip : TIp} {tset : TSet} (h : to σ H fun o H1 => ti σ H1 fun i H2 => tget o i H2 fun x H3 => te σ H3 fun y H4 => tip x y H4 fun z H5 => tset o i z H5 fun H6 => D.nx σ H6) : tAugS to ti te tget tip tset D σ H := h
theorem rd_ixLg {p : Addr} {xs : List V} (h : SqL K H p xs) (ha : atI xs m = some v) (q : Q v H) : rIxL K (.ref p) (.int m) H Q := ⟨p, xs, m, v, rfl, rfl, h, ha, q⟩
theorem rd_subG {to ti : TE} {t : TSet} (h : to σ H fun o H1 => ti σ H1 fun i H2 => t o i v H2 fun H3 => QS σ H3) : gSub to ti t v σ H QS := h
theorem rd_setL {p : Addr} {xs : List V} {j : Nat} {QH : Hp → Prop} (h : H p = some (.lst xs)) (hj : ixN xs.length m = some j) (q : QH (upd H p (.lst (xs.set j v)))) : rSetL (.ref p) (.int m) v H QH := ⟨p, xs, m, j, rfl, rfl, h, hj, q⟩
theorem rd_rep {l : Addr} {xs : List V} (h : H l = some (.lst xs)) (h0 : 0 ≤ m) (h1 : m ≤ 1000) (hl : xs.length ≤ 1) (q : ∀ p, H p = none → Q (.ref p) (upd H p (.lst (List.replicate m.toNat xs).flatten))) : rMul2 (.ref l) (.int m) H Q :=
  .inr ⟨l, m, xs, rfl, rfl, h, by omega, by omega, Nat.le_trans (Nat.mul_le_mul hl (Nat.le_refl _)) (Nat.le_of_lt (small1000 (by omega))), q⟩
theorem rd_yes (h : QB true H) : tYes σ H QB := h
theorem rd_chain {r r' : R2} {tc : TE} (h : ta σ H fun x H1 => tb σ H1 fun y H2 => r x y H2 fun z H3 => ∃ k, z = .bl k ∧ if k = true then tc σ H3 fun u H4 => r' y u H4 Q else Q (.bl false) H3) : tChain r r' ta tb tc σ H Q := h
theorem rd_ipI {f : Int → Int → Int} (q : Q (.int (f m n)) H) : ipI f (.int m) (.int n) H Q := ⟨m, n, rfl, rfl, q⟩
theorem rd_cat {l b : Addr} {xs zs : List V} (h1 : H l = some (.lst xs)) (h2 : H b = some (.lst zs)) (h3 : xs.length + zs.length ≤ sizeLine) (q : ∀ p, H p = none → Q (.ref p) (upd H p (.lst (xs ++ zs)))) : rAdd2 (.ref l) (.ref b) H Q :=
  .inr ⟨l, b, xs, zs, rfl, rfl, h1, h2, h3, q⟩
theorem rd_ixL {p : Addr} {xs : List V} (h : SqL K H p xs) (ha : atI xs m = some v) (q : Q v H) : rIx K (.ref p) (.int m) H Q := .inl ⟨p, xs, m, v, rfl, rfl, h, ha, q⟩
theorem rd_ixT {p : Addr} {xs : List V} (h : SqT K H p xs) (ha : atI xs m = some v) (q : Q v H) : rIx K (.ref p) (.int m) H Q := .inr (.inl ⟨p, xs, m, v, rfl, rfl, h, ha, q⟩)
theorem rd_len {p : Addr} {xs : List V} (h : SqL K H p xs ∨ SqT K H p xs) (q : Q (.int xs.length) H) : (fun vs H Q => ∃ p ys, vs = [.ref p] ∧ (SqL K H p ys ∨ SqT K H p ys) ∧ Q (.int (ys : List V).length) H : List V → Hp → VK → Prop) [.ref p] H Q := ⟨p, xs, rfl, h, q⟩
end
theorem ifD {p : Prop} [Decidable p] {A B : Prop} (h1 : p → A) (h2 : ¬ p → B) : if decide p = true then A else B := by
  by_cases h : p
  · rw [if_pos (decide_eq_true h)]
    exact h1 h
  · rw [if_neg (by simp [h])]
    exact h2 h
theorem ifT {p : Prop} [Decidable p] {A B : Prop} (h : p) (a : A) : if decide p = true then A else B := ifD (fun _ => a) fun n => absurd h n
theorem ifF {p : Prop} [Decidable p] {A B : Prop} (h : ¬ p) (b : B) : if decide p = true then A else B := ifD (fun y => absurd y h) fun _ => b
theorem ifNT {p : Prop} [Decidable p] {A B : Prop} (h : ¬ p) (a : A) : if (!decide p) = true then A else B := by
  rw [if_pos (by simp [h])]
  exact a
theorem ifNF {p : Prop} [Decidable p] {A B : Prop} (h : p) (b : B) : if (!decide p) = true then A else B := by
  rw [if_neg (by simp [h])]
  exact b
theorem ifNotT {A B : Prop} (h : B) : if (!true) = true then A else B := iteF h
theorem ifNotF {A B : Prop} (h : A) : if (!false) = true then A else B := iteT h
theorem ifB {b : Bool} {A B : Prop} (h1 : b = true → A) (h2 : b = false → B) : if b = true then A else B := by
  cases b with
  | true => exact iteT (h1 rfl)
  | false => exact iteF (h2 rfl)
end Wp


set_option Elab.async false
set_option linter.all false
set_option maxRecDepth 100000
set_option maxHeartbeats 4000000
namespace Wp
open PySem PySem.Spec PyProof.Rows L2
theorem szl {n : Nat} (h : n ≤ 1000) : n ≤ sizeLine := Nat.le_of_lt (small1000 h)
/-! ### loops of a written number of turns -/
theorem for_rng2 {g : TG} {tb : TS} {D : Ends} {σ : L2.St} {H : Hp} (h : g (.int 0) σ H fun σ2 H2 => tb { D with
      nx := fun σ3 H3 => g (.int 1) σ3 H3 fun σ4 H4 => tb { D with nx := D.nx, ct := D.nx, bk := D.nx } σ4 H4,
      ct := fun σ3 H3 => g (.int 1) σ3 H3 fun σ4 H4 => tb { D with nx := D.nx, ct := D.nx, bk := D.nx } σ4 H4, bk := D.nx } σ2 H2) :
    ∃ W : Nat → Nat → L2.St → Hp → Prop, (∃ m, W 0 m σ H) ∧ ∀ i m σ H, W i m σ H →
      ((Itr 0 2).stop i H ∧ D.nx σ H) ∨ ((Itr 0 2).go i H ∧ ∃ N : L2.St → Hp → Prop, (∀ σ' H', N σ' H' → ∃ m', m' < m ∧ W (i + 1) m' σ' H') ∧ ∀ x H', (Itr 0 2).yld i H x H' → g x σ H' fun σ2 H2 => tb { D with nx := N, ct := N, bk := D.nx } σ2 H2) := by
  refine for_range (lo := 0) (n := 2) (fun i σ H => match i with
    | 0 => g (.int 0) σ H fun σ2 H2 => tb { D with
      nx := fun σ3 H3 => g (.int 1) σ3 H3 fun σ4 H4 => tb { D with nx := D.nx, ct := D.nx, bk := D.nx } σ4 H4,
      ct := fun σ3 H3 => g (.int 1) σ3 H3 fun σ4 H4 => tb { D with nx := D.nx, ct := D.nx, bk := D.nx } σ4 H4, bk := D.nx } σ2 H2
    | 1 => g (.int 1) σ H fun σ4 H4 => tb { D with nx := D.nx, ct := D.nx, bk := D.nx } σ4 H4
    | _ => D.nx σ H) h (fun i σ H hi hP => ?_) fun σ H hP => hP
  match i, hi, hP with
  | 0, _, hP => exact hP
  | 1, _, hP => exact hP
def FoR (g : TG) (tb : TS) (D : Ends) (σ : L2.St) (us : List V) (H1 : Hp) : Prop := ∃ j : Int, us = [.int j] ∧ -(2 ^ 62) ≤ j ∧ j < 2 ^ 62 ∧ ∃ W : Nat → Nat → L2.St → Hp → Prop, (∃ m, W 0 m σ H1) ∧ ∀ i m σ H, W i m σ H →
  ((Itr 0 j.toNat).stop i H ∧ D.nx σ H) ∨ ((Itr 0 j.toNat).go i H ∧ ∃ N : L2.St → Hp → Prop, (∀ σ' H', N σ' H' → ∃ m', m' < m ∧ W (i + 1) m' σ' H') ∧ ∀ x H', (Itr 0 j.toNat).yld i H x H' → g x σ H' fun σ2 H2 => tb { D with nx := N, ct := N, bk := D.nx } σ2 H2)
theorem rd_forR {ta : TA} {g : TG} {tb : TS} {D : Ends} {σ : L2.St} {H : Hp} (h : ta σ H fun us H1 => FoR g tb D σ us H1) : tFor (iRng1 ta) g tb D σ H := h
theorem fo_rng2 {g : TG} {tb : TS} {D : Ends} {σ : L2.St} {H : Hp} (h : g (.int 0) σ H fun σ2 H2 => tb { D with
      nx := fun σ3 H3 => g (.int 1) σ3 H3 fun σ4 H4 => tb { D with nx := D.nx, ct := D.nx, bk := D.nx } σ4 H4,
      ct := fun σ3 H3 => g (.int 1) σ3 H3 fun σ4 H4 => tb { D with nx := D.nx, ct := D.nx, bk := D.nx } σ4 H4, bk := D.nx } σ2 H2) : FoR g tb D σ [.int 2] H := ⟨2, rfl, by decide, by decide, for_rng2 h⟩
theorem fo_rng {n : Nat} {g : TG} {tb : TS} {D : Ends} {σ : L2.St} {H : Hp} (Pv : Nat → L2.St → Hp → Prop) (hn : n ≤ 1000) (h0 : Pv 0 σ H)
    (hs : ∀ i σ H, i < n → Pv i σ H → g (.int (i : Int)) σ H fun σ2 H2 => tb { D with nx := Pv (i + 1), ct := Pv (i + 1), bk := D.nx } σ2 H2) (hd : ∀ σ H, Pv n σ H → D.nx σ H) : FoR g tb D σ [.int (n : Int)] H := by
  refine ⟨n, rfl, by omega, by omega, ?_⟩
  rw [Int.toNat_natCast]
  refine for_range (lo := 0) Pv h0 (fun i σ H hi hP => ?_) hd
  rw [Int.zero_add]
  exact hs i σ H hi hP
/-- over a list -/
def FoL (K : PySem.W.Frag) (g : TG) (tb : TS) (D : Ends) (σ : L2.St) (x : V) (H1 : Hp) : Prop := ∃ a, x = .ref a ∧ (∃ xs, SqL K H1 a xs) ∧ ∃ W : Nat → Nat → L2.St → Hp → Prop, (∃ m, W 0 m σ H1) ∧ ∀ i m σ H, W i m σ H →
  ((Itl K a).stop i H ∧ D.nx σ H) ∨ ((Itl K a).go i H ∧ ∃ N : L2.St → Hp → Prop, (∀ σ' H', N σ' H' → ∃ m', m' < m ∧ W (i + 1) m' σ' H') ∧ ∀ x H', (Itl K a).yld i H x H' → g x σ H' fun σ2 H2 => tb { D with nx := N, ct := N, bk := D.nx } σ2 H2)
theorem rd_forL {K : PySem.W.Frag} {tl : TE} {g : TG} {tb : TS} {D : Ends} {σ : L2.St} {H : Hp} (h : tl σ H fun x H1 => FoL K g tb D σ x H1) : tFor (iList K tl) g tb D σ H := h
/-- an invariant over F, H, the slots and the items taken so far -/
theorem fo_list {α : Type} {K : PySem.W.Frag} {R : Hp → V → α → Prop} [Mono R] {g : TG} {tb : TS} {D : Ends} {σ : L2.St} {F H : Hp} {x : V} {xs : List α} (Pv : Nat → L2.St → Hp → Hp → Prop) (hL : LstR K R F x xs) (h0 : Pv 0 σ F H) (hF : ∀ i σ F1 H1, Pv i σ F1 H1 → Same F F1 ∧ Same F1 H1)
    (hs : ∀ i y v σ F1 H1, xs[i]? = some y → R F1 v y → Pv i σ F1 H1 → g v σ H1 fun σ2 H2 => tb { D with nx := fun σ H => ∃ F, Pv (i + 1) σ F H, ct := fun σ H => ∃ F, Pv (i + 1) σ F H, bk := D.nx } σ2 H2)
    (hd : ∀ σ F1 H1, Pv xs.length σ F1 H1 → D.nx σ H1) : FoL K g tb D σ x H := by
  obtain ⟨a, ws, rfl, hq, ha⟩ := hL
  have sq : ∀ i σ F1 H1, Pv i σ F1 H1 → SqL K H1 a ws := fun i σ F1 H1 p => ((hF i σ F1 H1 p).1.trans (hF i σ F1 H1 p).2).seq hq
  refine ⟨a, rfl, ⟨ws, sq _ _ _ _ h0⟩, ?_⟩
  refine for_list (xs := ws) (fun i σ H => ∃ F, Pv i σ F H) ⟨F, h0⟩ (fun i σ H _ ⟨F1, p⟩ => sq _ _ _ _ p) (fun i v σ H hv ⟨F1, p⟩ => ?_) fun σ H ⟨F1, p⟩ => hd σ F1 H (by rw [← ha.length]; exact p)
  obtain ⟨y, hy, r⟩ := ha.getL hv
  exact hs i y v σ F1 H hy (Mono.mono (hF _ _ _ _ p).1 r) p
/-! ### comprehensions over two heaps -/
def LcGoal (J : It) (g : TG) (tt : TT) (te : TE) (vs : List Nat) (σ : L2.St) (D : Addr) (H : Hp) (Qd : Hp → Prop) : Prop := ∃ W : Nat → Nat → Hp → Prop, (∃ m, W 0 m (upd H D (.lst []))) ∧ ∀ i m H, W i m H →
  (J.stop i H ∧ Qd H) ∨ (J.go i H ∧ ∃ Nx : Hp → Prop, (∀ H', Nx H' → ∃ m', m' < m ∧ W (i + 1) m' H') ∧ ∀ x H', J.yld i H x H' → g x (wipe σ vs) H' fun σ2 H2 => wipe σ2 vs = wipe σ vs ∧ tt σ2 H2 fun b H3 =>
    if b = true then te σ2 H3 fun y H4 => ∃ acc, H4 D = some (.lst acc) ∧ acc.length < sizeLine ∧ Nx (upd H4 D (.lst (acc ++ [y]))) else Nx H3)
/-- what a turn has to show -/
def LcTurn {β : Type} (S : Hp → V → β → Prop) (g : TG) (tt : TT) (te : TE) (vs : List Nat) (σ : L2.St) (p : Bool) (z : β) (F1 H1 : Hp) (x : V) (H2 : Hp) : Prop :=
  ∀ (Z : V → Hp → Prop) (Z0 : Hp → Prop), (p = true → ∀ w F4 H4, Xt F1 H1 F4 H4 → S F4 w z → Z w H4) → (p = false → ∀ F4 H4, Xt F1 H1 F4 H4 → Z0 H4) →
    g x (wipe σ vs) H2 fun σ2 H2 => wipe σ2 vs = wipe σ vs ∧ tt σ2 H2 fun b H3 => if b = true then te σ2 H3 Z else Z0 H3
section
variable {α β : Type} {S : Hp → V → β → Prop} [Mono S] {K : PySem.W.Frag}
theorem lcJ {J : It} {g : TG} {tt : TT} {te : TE} {vs : List Nat} {σ : L2.St} {D : Addr} {F H : Hp} {Qd : Hp → Prop} (xs : List α) (p : α → Bool) (f : α → β) (fh : Same F H) (hD : H D = none) (len : xs.length ≤ 1000)
    (hgo : ∀ (i : Nat) (y : α) (F1 H1 : Hp), xs[i]? = some y → Xt F H F1 H1 → J.go i H1) (hstop : ∀ F1 H1, Xt F H F1 H1 → J.stop xs.length H1)
    (turn : ∀ (i : Nat) (y : α) (F1 H1 : Hp) (x : V) (H2 : Hp), xs[i]? = some y → Xt F H F1 H1 → J.yld i H1 x H2 → LcTurn S g tt te vs σ (p y) (f y) F1 H1 x H2)
    (done : ∀ F1 H1, Xt F H F1 H1 → LstX S F1 (.ref D) ((xs.filter p).map f) → Qd H1) : LcGoal J g tt te vs σ D H Qd := by
  have hFD : F D = none := fh.free hD
  refine ⟨fun i m H' => m = xs.length - i ∧ i ≤ xs.length ∧ ∃ F1 acc, Xt F H F1 H' ∧ F1 D = none ∧ H' D = some (.lst acc) ∧ All2 (S F1) acc (((xs.take i).filter p).map f),
    ⟨_, rfl, Nat.zero_le _, F, [], (Xt.refl fh).newH hD, hFD, upd_same, .nil⟩, ?_⟩
  rintro i m H' ⟨rfl, hi, F1, acc, x1, hF1, hDa, ha⟩
  by_cases hlt : i < xs.length
  · have hy : xs[i]? = some xs[i] := List.getElem?_eq_getElem hlt
    have et : xs.take (i + 1) = xs.take i ++ [xs[i]] := by rw [List.take_add_one, hy]; rfl
    refine .inr ⟨hgo i _ F1 H' hy x1, fun H5 => i + 1 ≤ xs.length ∧ ∃ F1 acc, Xt F H F1 H5 ∧ F1 D = none ∧ H5 D = some (.lst acc) ∧ All2 (S F1) acc (((xs.take (i + 1)).filter p).map f), fun H5 h5 => ⟨xs.length - (i + 1), by omega, rfl, h5⟩, fun x H2 hyl => ?_⟩
    refine turn i _ F1 H' x H2 hy x1 hyl _ _ (fun hp w F4 H4 x4 hS => ?_) fun hp F4 H4 x4 => ?_
    · have hD4 : H4 D = some (.lst acc) := x4.hh _ _ hDa
      have hF4 : F4 D = none := x4.frL hF1 hDa
      have hl := ha.length
      refine ⟨acc, hD4, ?_, hlt, F4, _, (x1.trans x4).put hD hF4, hF4, upd_same, ?_⟩
      · refine small1000 ?_
        rw [hl, List.length_map]
        refine Nat.le_trans (List.length_filter_le _ _) ?_
        rw [List.length_take]
        omega
      · rw [et, List.filter_append, List.map_append]
        refine All2.append (ha.imp fun _ _ => Mono.mono x4.ff) ?_
        rw [show [xs[i]].filter p = [xs[i]] by simp [hp]]
        exact .cons hS .nil
    · have hD4 : H4 D = some (.lst acc) := x4.hh _ _ hDa
      have hF4 : F4 D = none := x4.frL hF1 hDa
      refine ⟨hlt, F4, acc, x1.trans x4, hF4, hD4, ?_⟩
      rw [et, List.filter_append, List.map_append, show [xs[i]].filter p = [] by simp [hp], List.map_nil, List.append_nil]
      exact ha.imp fun _ _ => Mono.mono x4.ff
  · have e : i = xs.length := by omega
    subst e
    refine .inl ⟨hstop F1 H' x1, ?_⟩
    rw [List.take_length] at ha
    refine done _ _ (x1.pub hD hF1 hDa) ⟨D, acc, rfl, upd_same, ha.imp fun _ _ => Mono.mono (same_new hF1)⟩
variable {R : Hp → V → α → Prop} [Mono R]
/-- over a list -/
def LcL (K : PySem.W.Frag) (g : TG) (tt : TT) (te : TE) (vs : List Nat) (σ : L2.St) (Q : VK) (x : V) (H1 : Hp) : Prop := ∃ a, x = .ref a ∧ (∃ xs, SqL K H1 a xs) ∧ ∀ D, H1 D = none → LcGoal (Itl K a) g tt te vs σ D H1 (Q (.ref D))
theorem rd_lcL {tl : TE} {g : TG} {tt : TT} {te : TE} {vs : List Nat} {σ : L2.St} {H : Hp} {Q : VK} (h : tl σ H fun x H1 => LcL K g tt te vs σ Q x H1) : tLc (iList K tl) g tt te vs σ H Q := h
theorem lc_listX {g : TG} {tt : TT} {te : TE} {vs : List Nat} {σ : L2.St} {H F : Hp} {Q : VK} {x : V} (S : Hp → V → β → Prop) [Mono S] {xs : List α} (p : α → Bool) (f : α → β) (hL : LstR K R F x xs) (fh : Same F H) (hlen : xs.length ≤ 1000)
    (turn : ∀ (i : Nat) (y : α) (F1 H2 : Hp) (v : V), xs[i]? = some y → Xt F H F1 H2 → R F1 v y → LcTurn S g tt te vs σ (p y) (f y) F1 H2 v H2)
    (done : ∀ D F1 H2, Xt F H F1 H2 → LstX S F1 (.ref D) ((xs.filter p).map f) → Q (.ref D) H2) : LcL K g tt te vs σ Q x H := by
  obtain ⟨a, ws, rfl, hs, ha⟩ := hL
  have hsq : ∀ F1 H2, Xt F H F1 H2 → SqL K H2 a ws := fun F1 H2 x => (x.ff.trans x.sub).seq hs
  refine ⟨a, rfl, ⟨ws, (fh).seq hs⟩, fun D hD => ?_⟩
  refine lcJ (S := S) xs p f fh hD hlen (fun i y F1 H2 hy x => ?_) (fun F1 H2 x => ⟨ws, hsq F1 H2 x, by rw [ha.length]; exact Nat.le_refl _⟩) (fun i y F1 H2 v H3 hy x hyl => ?_) fun F1 H2 x hR => done D F1 H2 x hR
  · obtain ⟨v, hv, _⟩ := ha.get hy
    exact ⟨ws, v, hsq F1 H2 x, hv⟩
  · obtain ⟨e, hv⟩ := hyl
    subst e
    obtain ⟨v', hv', hr⟩ := ha.get hy
    have ev : v = v' := Option.some.inj ((hv ws (hsq F1 _ x)).symm.trans hv')
    subst ev
    exact turn i y F1 _ v hy x (Mono.mono x.ff hr)
theorem lc_list {g : TG} {tt : TT} {te : TE} {vs : List Nat} {σ : L2.St} {H F : Hp} {Q : VK} {x : V} (S : Hp → V → β → Prop) [Mono S] {xs : List α} (p : α → Bool) (f : α → β) (hL : LstR K R F x xs) (fh : Same F H) (hlen : xs.length ≤ 1000)
    (turn : ∀ (i : Nat) (y : α) (F1 H2 : Hp) (v : V), xs[i]? = some y → Xt F H F1 H2 → R F1 v y → LcTurn S g tt te vs σ (p y) (f y) F1 H2 v H2)
    (done : ∀ D F1 H2, Xt F H F1 H2 → LstR K S F1 (.ref D) ((xs.filter p).map f) → Q (.ref D) H2) : LcL K g tt te vs σ Q x H :=
  lc_listX S p f hL fh hlen turn fun D F1 H2 x h => done D F1 H2 x h.lst
/-- over range(n) -/
def LcR (g : TG) (tt : TT) (te : TE) (vs : List Nat) (σ : L2.St) (Q : VK) (us : List V) (H1 : Hp) : Prop := ∃ j : Int, us = [.int j] ∧ -(2 ^ 62) ≤ j ∧ j < 2 ^ 62 ∧ ∀ D, H1 D = none → LcGoal (Itr 0 j.toNat) g tt te vs σ D H1 (Q (.ref D))
theorem rd_lcR {ta : TA} {g : TG} {tt : TT} {te : TE} {vs : List Nat} {σ : L2.St} {H : Hp} {Q : VK} (h : ta σ H fun us H1 => LcR g tt te vs σ Q us H1) : tLc (iRng1 ta) g tt te vs σ H Q := h
theorem lc_rngX {g : TG} {tt : TT} {te : TE} {vs : List Nat} {σ : L2.St} {H F : Hp} {Q : VK} (S : Hp → V → β → Prop) [Mono S] {n : Nat} (p : Nat → Bool) (f : Nat → β) (fh : Same F H) (hn : n ≤ 1000)
    (turn : ∀ (i : Nat) (F1 H2 : Hp), i < n → Xt F H F1 H2 → LcTurn S g tt te vs σ (p i) (f i) F1 H2 (.int (i : Int)) H2)
    (done : ∀ D F1 H2, Xt F H F1 H2 → LstX S F1 (.ref D) (((List.range n).filter p).map f) → Q (.ref D) H2) : LcR g tt te vs σ Q [.int (n : Int)] H := by
  refine ⟨n, rfl, by omega, by omega, fun D hD => ?_⟩
  have hlen : (List.range n).length = n := List.length_range
  refine lcJ (S := S) (List.range n) p f fh hD (by omega) (fun i y F1 H2 hy x => ?_) (fun F1 H2 x => ?_) (fun i y F1 H2 v H3 hy x hyl => ?_) fun F1 H2 x hR => done D F1 H2 x hR
  · have := (List.getElem?_eq_some_iff.mp hy).1
    show i < (n : Int).toNat
    omega
  · show (n : Int).toNat ≤ (List.range n).length
    omega
  · obtain ⟨e, ev⟩ := hyl
    subst e
    obtain ⟨hi, hy⟩ := List.getElem?_eq_some_iff.mp hy
    rw [List.getElem_range] at hy
    subst hy
    have ev2 : v = .int (i : Int) := by rw [ev, Int.zero_add]
    subst ev2
    exact turn i F1 _ (by omega) x
theorem lc_rng {g : TG} {tt : TT} {te : TE} {vs : List Nat} {σ : L2.St} {H F : Hp} {Q : VK} (S : Hp → V → β → Prop) [Mono S] {n : Nat} (p : Nat → Bool) (f : Nat → β) (fh : Same F H) (hn : n ≤ 1000)
    (turn : ∀ (i : Nat) (F1 H2 : Hp), i < n → Xt F H F1 H2 → LcTurn S g tt te vs σ (p i) (f i) F1 H2 (.int (i : Int)) H2)
    (done : ∀ D F1 H2, Xt F H F1 H2 → LstR K S F1 (.ref D) (((List.range n).filter p).map f) → Q (.ref D) H2) : LcR g tt te vs σ Q [.int (n : Int)] H :=
  lc_rngX S p f fh hn turn fun D F1 H2 x h => done D F1 H2 x h.lst
/-- over enumerate(list) -/
def LcE (K : PySem.W.Frag) (g : TG) (tt : TT) (te : TE) (vs : List Nat) (σ : L2.St) (Q : VK) (us : List V) (H1 : Hp) : Prop := ∃ a xs, us = [.ref a] ∧ SqL K H1 a xs ∧ ∀ D, H1 D = none → LcGoal (Ite K a) g tt te vs σ D H1 (Q (.ref D))
theorem rd_lcE {ta : TA} {g : TG} {tt : TT} {te : TE} {vs : List Nat} {σ : L2.St} {H : Hp} {Q : VK} (h : ta σ H fun us H1 => LcE K g tt te vs σ Q us H1) : tLc (iEnum K ta) g tt te vs σ H Q := h
theorem lc_enumX {g : TG} {tt : TT} {te : TE} {vs : List Nat} {σ : L2.St} {H F : Hp} {Q : VK} {x : V} (S : Hp → V → β → Prop) [Mono S] {xs : List α} (p : Nat × α → Bool) (f : Nat × α → β) (hL : LstR K R F x xs) (fh : Same F H) (hlen : xs.length ≤ 1000)
    (turn : ∀ (i : Nat) (y : α) (F1 H2 : Hp) (T : Addr) (v : V), xs[i]? = some y → Xt F H F1 H2 → R F1 v y → H2 T = none → LcTurn S g tt te vs σ (p (i, y)) (f (i, y)) F1 H2 (.ref T) (upd H2 T (.tup [.int (i : Nat), v])))
    (done : ∀ D F1 H2, Xt F H F1 H2 → LstX S F1 (.ref D) ((((List.range xs.length).zip xs).filter p).map f) → Q (.ref D) H2) : LcE K g tt te vs σ Q [x] H := by
  obtain ⟨a, ws, rfl, hs, ha⟩ := hL
  have hsq : ∀ F1 H2, Xt F H F1 H2 → SqL K H2 a ws := fun F1 H2 x => (x.ff.trans x.sub).seq hs
  have hl : ((List.range xs.length).zip xs).length = xs.length := by simp
  have get : ∀ (i : Nat) (y : Nat × α), ((List.range xs.length).zip xs)[i]? = some y → y.1 = i ∧ xs[i]? = some y.2 := fun i y hy => by
    rw [List.getElem?_zip_eq_some] at hy
    obtain ⟨h1, h2⟩ := hy
    obtain ⟨hi, h1⟩ := List.getElem?_eq_some_iff.mp h1
    rw [List.getElem_range] at h1
    exact ⟨h1.symm, h2⟩
  refine ⟨a, ws, rfl, (fh).seq hs, fun D hD => ?_⟩
  refine lcJ (S := S) ((List.range xs.length).zip xs) p f fh hD (by omega) (fun i y F1 H2 hy x => ?_) (fun F1 H2 x => ⟨ws, hsq F1 H2 x, by rw [ha.length, hl]; exact Nat.le_refl _⟩) (fun i y F1 H2 v H3 hy x hyl => ?_) fun F1 H2 x hR => done D F1 H2 x hR
  · obtain ⟨v, hv, _⟩ := ha.get (get i y hy).2
    exact ⟨ws, v, hsq F1 H2 x, hv⟩
  · obtain ⟨T, u, rfl, nT, rfl, hu⟩ := hyl
    obtain ⟨e1, e2⟩ := get i y hy
    obtain ⟨v', hv', hr⟩ := ha.get e2
    have ev : u = v' := Option.some.inj ((hu ws (hsq F1 _ x)).symm.trans hv')
    subst ev
    have h := turn i y.2 F1 H2 T u e2 x (Mono.mono x.ff hr) nT
    rw [show ((i, y.2) : Nat × α) = y from by rw [← e1]] at h
    exact h
theorem lc_enum {g : TG} {tt : TT} {te : TE} {vs : List Nat} {σ : L2.St} {H F : Hp} {Q : VK} {x : V} (S : Hp → V → β → Prop) [Mono S] {xs : List α} (p : Nat × α → Bool) (f : Nat × α → β) (hL : LstR K R F x xs) (fh : Same F H) (hlen : xs.length ≤ 1000)
    (turn : ∀ (i : Nat) (y : α) (F1 H2 : Hp) (T : Addr) (v : V), xs[i]? = some y → Xt F H F1 H2 → R F1 v y → H2 T = none → LcTurn S g tt te vs σ (p (i, y)) (f (i, y)) F1 H2 (.ref T) (upd H2 T (.tup [.int (i : Nat), v])))
    (done : ∀ D F1 H2, Xt F H F1 H2 → LstR K S F1 (.ref D) ((((List.range xs.length).zip xs).filter p).map f) → Q (.ref D) H2) : LcE K g tt te vs σ Q [x] H :=
  lc_enumX S p f hL fh hlen turn fun D F1 H2 x h => done D F1 H2 x h.lst
/-- over zip(list, list) -/
def LcZ (K : PySem.W.Frag) (g : TG) (tt : TT) (te : TE) (vs : List Nat) (σ : L2.St) (Q : VK) (us : List V) (H1 : Hp) : Prop := ∃ a b xs ys, us = [.ref a, .ref b] ∧ SqL K H1 a xs ∧ SqL K H1 b ys ∧ ∀ D, H1 D = none → LcGoal (Itz K a b) g tt te vs σ D H1 (Q (.ref D))
theorem rd_lcZ {ta : TA} {g : TG} {tt : TT} {te : TE} {vs : List Nat} {σ : L2.St} {H : Hp} {Q : VK} (h : ta σ H fun us H1 => LcZ K g tt te vs σ Q us H1) : tLc (iZip K ta) g tt te vs σ H Q := h
theorem lc_zipX {γ : Type} {R' : Hp → V → γ → Prop} [Mono R'] {g : TG} {tt : TT} {te : TE} {vs : List Nat} {σ : L2.St} {H F : Hp} {Q : VK} {x x' : V} (S : Hp → V → β → Prop) [Mono S] {xs : List α} {ys : List γ} (p : α × γ → Bool) (f : α × γ → β) (hL : LstR K R F x xs) (hL' : LstR K R' F x' ys) (fh : Same F H) (hlen : xs.length ≤ 1000)
    (turn : ∀ (i : Nat) (y : α) (z : γ) (F1 H2 : Hp) (T : Addr) (v u : V), xs[i]? = some y → ys[i]? = some z → Xt F H F1 H2 → R F1 v y → R' F1 u z → H2 T = none → LcTurn S g tt te vs σ (p (y, z)) (f (y, z)) F1 H2 (.ref T) (upd H2 T (.tup [v, u])))
    (done : ∀ D F1 H2, Xt F H F1 H2 → LstX S F1 (.ref D) (((xs.zip ys).filter p).map f) → Q (.ref D) H2) : LcZ K g tt te vs σ Q [x, x'] H := by
  obtain ⟨a, ws, rfl, hs, ha⟩ := hL
  obtain ⟨b, us, rfl, hs', ha'⟩ := hL'
  have hsq : ∀ F1 H2, Xt F H F1 H2 → SqL K H2 a ws := fun F1 H2 x => (x.ff.trans x.sub).seq hs
  have hsq' : ∀ F1 H2, Xt F H F1 H2 → SqL K H2 b us := fun F1 H2 x => (x.ff.trans x.sub).seq hs'
  have get : ∀ (i : Nat) (y : α × γ), (xs.zip ys)[i]? = some y → xs[i]? = some y.1 ∧ ys[i]? = some y.2 := fun i y hy => List.getElem?_zip_eq_some.mp hy
  refine ⟨a, b, ws, us, rfl, (fh).seq hs, (fh).seq hs', fun D hD => ?_⟩
  refine lcJ (S := S) (xs.zip ys) p f fh hD (by rw [List.length_zip]; omega) (fun i y F1 H2 hy x => ?_) (fun F1 H2 x => ⟨ws, us, hsq F1 H2 x, hsq' F1 H2 x, by rw [ha.length, ha'.length, List.length_zip]; omega⟩) (fun i y F1 H2 v H3 hy x hyl => ?_) fun F1 H2 x hR => done D F1 H2 x hR
  · obtain ⟨v, hv, _⟩ := ha.get (get i y hy).1
    obtain ⟨v', hv', _⟩ := ha'.get (get i y hy).2
    exact ⟨ws, us, v, v', hsq F1 H2 x, hsq' F1 H2 x, hv, hv'⟩
  · obtain ⟨T, u, u', rfl, nT, rfl, hu, hu'⟩ := hyl
    obtain ⟨e1, e2⟩ := get i y hy
    obtain ⟨v1, hv1, hr1⟩ := ha.get e1
    obtain ⟨v2, hv2, hr2⟩ := ha'.get e2
    have ev : u = v1 := Option.some.inj ((hu ws (hsq F1 _ x)).symm.trans hv1)
    have ev' : u' = v2 := Option.some.inj ((hu' us (hsq' F1 _ x)).symm.trans hv2)
    subst ev ev'
    exact turn i y.1 y.2 F1 H2 T u u' e1 e2 x (Mono.mono x.ff hr1) (Mono.mono x.ff hr2) nT
theorem lc_zip {γ : Type} {R' : Hp → V → γ → Prop} [Mono R'] {g : TG} {tt : TT} {te : TE} {vs : List Nat} {σ : L2.St} {H F : Hp} {Q : VK} {x x' : V} (S : Hp → V → β → Prop) [Mono S] {xs : List α} {ys : List γ} (p : α × γ → Bool) (f : α × γ → β) (hL : LstR K R F x xs) (hL' : LstR K R' F x' ys) (fh : Same F H) (hlen : xs.length ≤ 1000)
    (turn : ∀ (i : Nat) (y : α) (z : γ) (F1 H2 : Hp) (T : Addr) (v u : V), xs[i]? = some y → ys[i]? = some z → Xt F H F1 H2 → R F1 v y → R' F1 u z → H2 T = none → LcTurn S g tt te vs σ (p (y, z)) (f (y, z)) F1 H2 (.ref T) (upd H2 T (.tup [v, u])))
    (done : ∀ D F1 H2, Xt F H F1 H2 → LstR K S F1 (.ref D) (((xs.zip ys).filter p).map f) → Q (.ref D) H2) : LcZ K g tt te vs σ Q [x, x'] H :=
  lc_zipX S p f hL hL' fh hlen turn fun D F1 H2 x h => done D F1 H2 x h.lst
end
end Wp


set_option Elab.async false
set_option linter.all false
set_option maxRecDepth 100000
set_option maxHeartbeats 4000000
namespace Wp
open PySem PySem.Spec PyProof.Rows L2
/-! ### what is reckoned -/
/-- the least whole number not below t / b -/
def upI (t b : Int) : Int := if t % b > 0 then t / b + 1 else t / b
/-- in lowest terms -/
def low (t b : Int) : Int × Int := (t / (Int.gcd t b : Int), b / (Int.gcd t b : Int))
/-- a way by lists: seats, whether hand 0 is first by lots, hurdle, step -/
structure Cfg where
  S : Nat
  f : Bool
  ht : Int
  hb : Int
  st : Int
/-- where a hand stands in the lots -/
def ixl (f : Bool) (a : Int) : Int := if f then a else 1 - a
def lotsOf (f : Bool) : List Int := if f then [0, 1] else [1, 0]
structure HurOk (ht hb : Int) : Prop where
  t0 : 0 ≤ ht
  tb : ht ≤ hb
  b1 : 1 ≤ hb
  b5 : hb ≤ 5
  g : Int.gcd ht hb = 1
structure CfgOk (c : Cfg) : Prop where
  s1 : 1 ≤ c.S
  s3 : c.S ≤ 3
  h : HurOk c.ht c.hb
  st : c.st = 1 ∨ c.st = 2
structure LCfg where
  areas : List Cfg
  ev : Nat
  f : Bool
  ht : Int
  hb : Int
  st : Int
structure LOk (L : LCfg) : Prop where
  a1 : 1 ≤ L.areas.length
  a2 : L.areas.length ≤ 2
  areas : ∀ c ∈ L.areas, CfgOk c
  e2 : L.ev ≤ 2
  h : HurOk L.ht L.hb
  st : L.st = 1 ∨ L.st = 2
/-- votes needed -/
def want (ht hb b : Int) : Int := max 1 (upI (ht * b) hb)
/-- the mark of a hand, none where it takes no part -/
def mk (st w v h : Int) : Option (Int × Int) := if v < w then none else some (low v (1 + st * h))
/-- the hand that gets the seat: false is hand 0, true is hand 1 -/
def pickM (f : Bool) : Option (Int × Int) → Option (Int × Int) → Option Bool
  | none, none => none
  | none, some _ => some true
  | some _, none => some false
  | some p, some q => some (decide (p.1 * q.2 < q.1 * p.2) || (decide (p = q) && !f))
def hI (b : Bool) : Int := if b then 1 else 0
/-- so many seats, going on from h0 and h1 -/
def runM (f : Bool) (st w v0 v1 : Int) : Nat → Int → Int → List Bool
  | 0, _, _ => []
  | n + 1, h0, h1 => match pickM f (mk st w v0 h0) (mk st w v1 h1) with
    | none => []
    | some b => b :: runM f st w v0 v1 n (h0 + (1 - hI b)) (h1 + hI b)
def cnt (bs : List Bool) : Int × Int := ((bs.filter (!·)).length, (bs.filter (·)).length)
/-- votes of hand 0, of hand 1, idle ones -/
structure Vt where
  a : Int
  b : Int
  i : Int
  deriving DecidableEq
def Vt.sum (v : Vt) : Int := v.a + v.b + v.i
def Vt.l (v : Vt) : List Int := [v.a, v.b, v.i]
structure VtOk (v : Vt) : Prop where
  a0 : 0 ≤ v.a
  b0 : 0 ≤ v.b
  i0 : 0 ≤ v.i
  m : v.sum ≤ 1000
/-- an area's outcome -/
def outA (c : Cfg) (v : Vt) : Int × Int := cnt (runM c.f c.st (want c.ht c.hb v.sum) v.a v.b c.S 0 0)
/-! ### instances -/
def IsLists (K : PySem.W.Frag) : Hp → V → Cfg → Prop := fun F v c => ∃ a dx l hu, v = .ref a ∧ F a = some (.ins (He.ga K "Lists") dx [("hands", .int 2), ("seats", .int (c.S : Int)), ("lots", .ref l), ("hurdle", .ref hu), ("step", .int c.st)]) ∧
  SqL K F l ((lotsOf c.f).map .int) ∧ SqT K F hu [.int c.ht, .int c.hb] ∧ CfgOk c
def IsLand (K : PySem.W.Frag) : Hp → V → LCfg → Prop := fun F v c => ∃ a dx ar lo hu, v = .ref a ∧ SlX.Slt F a (He.ga K "Land") dx [some (.ref ar), some (.int (c.ev : Int)), some (.int 2), some (.ref hu), some (.ref lo), some (.int c.st)] ∧
  LstR K (IsLists K) F (.ref ar) c.areas ∧ SqL K F lo ((lotsOf c.f).map .int) ∧ SqT K F hu [.int c.ht, .int c.hb] ∧ LOk c
def WayR (K : PySem.W.Frag) (F : Hp) (v : V) (f : Bool) (st : Int) : Prop := (∃ c, IsLists K F v c ∧ c.f = f ∧ c.st = st) ∨ (∃ c, IsLand K F v c ∧ c.f = f ∧ c.st = st)
theorem slt_mono {F F' : Hp} {a C dx : Addr} {vs : List (Option V)} (s : Same F F') (h : SlX.Slt F a C dx vs) : SlX.Slt F' a C dx vs := by
  rcases h with ⟨h, e⟩ | ⟨h, h'⟩
  · exact .inl ⟨s _ _ h, e⟩
  · exact .inr ⟨s _ _ h, s _ _ h'⟩
section
variable {K : PySem.W.Frag}
instance : Mono (IsLists K) := ⟨fun s h => by
  obtain ⟨a, dx, l, hu, e, h1, h2, h3, h4⟩ := h
  exact ⟨a, dx, l, hu, e, s _ _ h1, s.seq h2, sm_t s h3, h4⟩⟩
instance : Mono (IsLand K) := ⟨fun s h => by
  obtain ⟨a, dx, ar, lo, hu, e, h1, h2, h3, h4, h5⟩ := h
  exact ⟨a, dx, ar, lo, hu, e, slt_mono s h1, Mono.mono s h2, s.seq h3, sm_t s h4, h5⟩⟩
theorem WayR.mono {F F' : Hp} {v : V} {f : Bool} {st : Int} (s : Same F F') (h : WayR K F v f st) : WayR K F' v f st := by
  rcases h with ⟨c, h, e⟩ | ⟨c, h, e⟩
  · exact .inl ⟨c, Mono.mono s h, e⟩
  · exact .inr ⟨c, Mono.mono s h, e⟩
theorem WayR.st {F : Hp} {v : V} {f : Bool} {st : Int} (h : WayR K F v f st) : st = 1 ∨ st = 2 := by
  rcases h with ⟨c, ⟨a, dx, l, hu, e, h1, h2, h3, h4⟩, rfl, rfl⟩ | ⟨c, ⟨a, dx, ar, lo, hu, e, h1, h2, h3, h4, h5⟩, rfl, rfl⟩
  · exact h4.st
  · exact h5.st
/-- the marks -/
def MarkR (K : PySem.W.Frag) : Hp → V → Option (Int × Int) → Prop := fun F v o => match o with
  | none => v = .non
  | some p => TupI K F v [p.1, p.2]
instance : Mono (MarkR K) := ⟨fun {F F' v x} s h => by
  cases x with
  | none => exact h
  | some p => exact Mono.mono (R := TupI K) s h⟩
variable {mg : Str → Option Value} {F H : Hp} {v : V} {Q : VK}
theorem IsLists.hands (T : Txt K mg) {c : Cfg} (h : IsLists K F v c) (s : Same F H) (q : Q (.int 2) H) : rAt K "hands" v H Q := by
  obtain ⟨a, dx, l, hu, e, h1, h2, h3, h4⟩ := h
  exact .inl ⟨a, _, dx, _, _, e, s _ _ h1, T.c_Lists, T.n_Lists_hands, rfl, q⟩
theorem IsLists.seats (T : Txt K mg) {c : Cfg} (h : IsLists K F v c) (s : Same F H) (q : Q (.int (c.S : Int)) H) : rAt K "seats" v H Q := by
  obtain ⟨a, dx, l, hu, e, h1, h2, h3, h4⟩ := h
  exact .inl ⟨a, _, dx, _, _, e, s _ _ h1, T.c_Lists, T.n_Lists_seats, rfl, q⟩
theorem IsLists.step (T : Txt K mg) {c : Cfg} (h : IsLists K F v c) (s : Same F H) (q : Q (.int c.st) H) : rAt K "step" v H Q := by
  obtain ⟨a, dx, l, hu, e, h1, h2, h3, h4⟩ := h
  exact .inl ⟨a, _, dx, _, _, e, s _ _ h1, T.c_Lists, T.n_Lists_step, rfl, q⟩
theorem IsLists.lots (T : Txt K mg) {c : Cfg} (h : IsLists K F v c) (s : Same F H) (q : ∀ l, SqL K F l ((lotsOf c.f).map .int) → Q (.ref l) H) : rAt K "lots" v H Q := by
  obtain ⟨a, dx, l, hu, e, h1, h2, h3, h4⟩ := h
  exact .inl ⟨a, _, dx, _, _, e, s _ _ h1, T.c_Lists, T.n_Lists_lots, rfl, q _ h2⟩
theorem IsLists.hurdle (T : Txt K mg) {c : Cfg} (h : IsLists K F v c) (s : Same F H) (q : ∀ l, SqT K F l [.int c.ht, .int c.hb] → Q (.ref l) H) : rAt K "hurdle" v H Q := by
  obtain ⟨a, dx, l, hu, e, h1, h2, h3, h4⟩ := h
  exact .inl ⟨a, _, dx, _, _, e, s _ _ h1, T.c_Lists, T.n_Lists_hurdle, rfl, q _ h3⟩
theorem IsLand.hands (T : Txt K mg) {c : LCfg} (h : IsLand K F v c) (s : Same F H) (q : Q (.int 2) H) : rAt K "hands" v H Q := by
  obtain ⟨a, dx, ar, lo, hu, e, h1, h2, h3, h4, h5⟩ := h
  exact .inr ⟨a, _, dx, _, _, _, _, e, slt_mono s h1, T.s_Land, T.sl_Land_hands, rfl, q⟩
theorem IsLand.step (T : Txt K mg) {c : LCfg} (h : IsLand K F v c) (s : Same F H) (q : Q (.int c.st) H) : rAt K "step" v H Q := by
  obtain ⟨a, dx, ar, lo, hu, e, h1, h2, h3, h4, h5⟩ := h
  exact .inr ⟨a, _, dx, _, _, _, _, e, slt_mono s h1, T.s_Land, T.sl_Land_step, rfl, q⟩
theorem IsLand.evened (T : Txt K mg) {c : LCfg} (h : IsLand K F v c) (s : Same F H) (q : Q (.int (c.ev : Int)) H) : rAt K "evened" v H Q := by
  obtain ⟨a, dx, ar, lo, hu, e, h1, h2, h3, h4, h5⟩ := h
  exact .inr ⟨a, _, dx, _, _, _, _, e, slt_mono s h1, T.s_Land, T.sl_Land_evened, rfl, q⟩
theorem IsLand.lots (T : Txt K mg) {c : LCfg} (h : IsLand K F v c) (s : Same F H) (q : ∀ l, SqL K F l ((lotsOf c.f).map .int) → Q (.ref l) H) : rAt K "lots" v H Q := by
  obtain ⟨a, dx, ar, lo, hu, e, h1, h2, h3, h4, h5⟩ := h
  exact .inr ⟨a, _, dx, _, _, _, _, e, slt_mono s h1, T.s_Land, T.sl_Land_lots, rfl, q _ h3⟩
theorem IsLand.hurdle (T : Txt K mg) {c : LCfg} (h : IsLand K F v c) (s : Same F H) (q : ∀ l, SqT K F l [.int c.ht, .int c.hb] → Q (.ref l) H) : rAt K "hurdle" v H Q := by
  obtain ⟨a, dx, ar, lo, hu, e, h1, h2, h3, h4, h5⟩ := h
  exact .inr ⟨a, _, dx, _, _, _, _, e, slt_mono s h1, T.s_Land, T.sl_Land_hurdle, rfl, q _ h4⟩
theorem IsLand.areas (T : Txt K mg) {c : LCfg} (h : IsLand K F v c) (s : Same F H) (q : ∀ l, LstR K (IsLists K) F (.ref l) c.areas → Q (.ref l) H) : rAt K "areas" v H Q := by
  obtain ⟨a, dx, ar, lo, hu, e, h1, h2, h3, h4, h5⟩ := h
  exact .inr ⟨a, _, dx, _, _, _, _, e, slt_mono s h1, T.s_Land, T.sl_Land_areas, rfl, q _ h2⟩
theorem WayR.hands (T : Txt K mg) {f : Bool} {st : Int} (h : WayR K F v f st) (s : Same F H) (q : Q (.int 2) H) : rAt K "hands" v H Q := by
  rcases h with ⟨c, h, _⟩ | ⟨c, h, _⟩
  · exact h.hands T s q
  · exact h.hands T s q
/-- a method of one of them -/
theorem IsLists.me {c : Cfg} {m : Str} {f : Addr} (T : Txt K mg) (h : IsLists K F v c) (s : Same F H) (hm : Meth K (He.ga K "Lists") m f) (hl : ([("hands", .int 2), ("seats", .int (c.S : Int)), ("lots", .non), ("hurdle", .non), ("step", .int c.st)] : List (Str × V)).lookup m = none) : IsMe K v H m f := by
  obtain ⟨a, dx, l, hu, e, h1, h2, h3, h4⟩ := h
  refine .inl ⟨a, _, dx, _, e, s _ _ h1, T.c_Lists, hm, ?_⟩
  simp only [List.lookup] at hl ⊢
  split at hl <;> first | cases hl | skip
  split at hl <;> first | cases hl | skip
  split at hl <;> first | cases hl | skip
  split at hl <;> first | cases hl | skip
  split at hl <;> first | cases hl | skip
  simp [*]
theorem IsLand.me {c : LCfg} {m : Str} {f : Addr} (T : Txt K mg) (h : IsLand K F v c) (s : Same F H) (hm : Meth K (He.ga K "Land") m f) : IsMe K v H m f := by
  obtain ⟨a, dx, ar, lo, hu, e, h1, h2, h3, h4, h5⟩ := h
  exact .inr ⟨a, _, dx, _, e, slt_mono s h1, T.s_Land, hm⟩
end
end Wp


set_option Elab.async false
set_option linter.all false
set_option maxRecDepth 100000
set_option maxHeartbeats 4000000
namespace Wp
open PySem PySem.Spec PyProof.Rows L2
/-! ### == of data -/
section
variable {α : Type} [DecidableEq α]
theorem eqv_int (a b : Int) : PyData.eqv (.int a) (.int b) = decide (a = b) := by
  rw [PyData.eqv]
  exact Bool.beq_eq_decide_eq a b
theorem eqv_bool (a b : Bool) : PyData.eqv (.bool a) (.bool b) = decide (a = b) := by
  rw [PyData.eqv]
  exact Bool.beq_eq_decide_eq a b
theorem eqvAll_map {f : α → PyData} (h : ∀ x y, PyData.eqv (f x) (f y) = decide (x = y)) : ∀ xs ys : List α, PyData.eqvAll (xs.map f) (ys.map f) = decide (xs = ys)
  | [], [] => by
    rw [List.map_nil, PyData.eqvAll]
    exact (decide_eq_true rfl).symm
  | [], y :: ys => by
    rw [List.map_nil, List.map_cons, PyData.eqvAll]
    exact (decide_eq_false (fun e => nomatch e)).symm
  | x :: xs, [] => by
    rw [List.map_nil, List.map_cons, PyData.eqvAll]
    exact (decide_eq_false (fun e => nomatch e)).symm
  | x :: xs, y :: ys => by
    rw [List.map_cons, List.map_cons, PyData.eqvAll, h, eqvAll_map h]
    by_cases e1 : x = y
    · by_cases e2 : xs = ys
      · rw [decide_eq_true e1, decide_eq_true e2, decide_eq_true (by rw [e1, e2])]
        rfl
      · rw [decide_eq_false e2, decide_eq_false (fun e => e2 (List.cons.inj e).2), Bool.and_false]
    · rw [decide_eq_false e1, decide_eq_false (fun e => e1 (List.cons.inj e).1), Bool.false_and]
theorem eqv_list {f : α → PyData} (h : ∀ x y, PyData.eqv (f x) (f y) = decide (x = y)) (xs ys : List α) : PyData.eqv (.list (xs.map f)) (.list (ys.map f)) = decide (xs = ys) := by
  rw [PyData.eqv, eqvAll_map h]
theorem canLay_map {f : α → PyData} (h : ∀ x, (f x).canLay0 = true) : ∀ xs : List α, PyData.canLayAll0 (xs.map f) = true
  | [] => by
    rw [List.map_nil, PyData.canLayAll0]
  | x :: xs => by
    rw [List.map_cons, PyData.canLayAll0, h, canLay_map h]
    rfl
theorem depth_map {f : α → PyData} {n : Nat} (h : ∀ x, (f x).depth ≤ n) : ∀ xs : List α, PyData.depthAll (xs.map f) ≤ n
  | [] => by
    rw [List.map_nil, PyData.depthAll]
    exact Nat.zero_le _
  | x :: xs => by
    rw [List.map_cons, PyData.depthAll]
    exact Nat.max_le.mpr ⟨h x, depth_map h xs⟩
/-- a kind of data: how it is laid, its == -/
structure Dat (K : PySem.W.Frag) (R : Hp → V → α → Prop) (f : α → PyData) (n : Nat) : Prop where
  dp : ∀ {F v x}, R F v x → Dp K F v (f x)
  eqv : ∀ x y, PyData.eqv (f x) (f y) = decide (x = y)
  lay : ∀ x, (f x).canLay0 = true
  dep : ∀ x, (f x).depth ≤ n
variable {K : PySem.W.Frag}
theorem dat_int : Dat K IntR .int 0 := ⟨fun {F v x} h => by
  rw [show v = .int x from h]
  exact .int x, eqv_int, fun x => by rw [PyData.canLay0], fun x => by rw [PyData.depth]; exact Nat.le_refl _⟩
theorem dat_bool : Dat K BoolR .bool 0 := ⟨fun {F v x} h => by
  rw [show v = .bl x from h]
  exact .bl x, eqv_bool, fun x => by rw [PyData.canLay0], fun x => by rw [PyData.depth]; exact Nat.le_refl _⟩
theorem dpAll_of {R : Hp → V → α → Prop} {f : α → PyData} {n : Nat} (d : Dat K R f n) {F : Hp} {vs : List V} {xs : List α} (h : All2 (R F) vs xs) : DpAll K F vs (xs.map f) := by
  induction h with
  | nil => exact .nil
  | cons r _ ih => exact .cons (d.dp r) ih
theorem Dat.lst {R : Hp → V → α → Prop} {f : α → PyData} {n : Nat} (d : Dat K R f n) : Dat K (LstR K R) (fun xs => .list (xs.map f)) (n + 1) where
  dp := fun {F v x} h => by
    obtain ⟨a, vs, rfl, hs, ha⟩ := h
    exact .lst hs (dpAll_of d ha)
  eqv := eqv_list d.eqv
  lay := fun xs => by
    rw [PyData.canLay0]
    exact canLay_map d.lay xs
  dep := fun xs => by
    rw [PyData.depth]
    exact Nat.succ_le_succ (depth_map d.dep xs)
theorem Dat.tup2 {β : Type} [DecidableEq β] {R : Hp → V → α → Prop} {S : Hp → V → β → Prop} {f : α → PyData} {g : β → PyData} {n m : Nat} (d : Dat K R f n) (e : Dat K S g m) : Dat K (Tup2 K R S) (fun x => .tuple [f x.1, g x.2]) (max n m + 1) where
  dp := fun {F v x} h => by
    obtain ⟨a, v1, v2, rfl, hs, h1, h2⟩ := h
    exact .tup hs (.cons (d.dp h1) (.cons (e.dp h2) .nil))
  eqv := fun x y => by
    rw [PyData.eqv, PyData.eqvAll, PyData.eqvAll, PyData.eqvAll, d.eqv, e.eqv, Bool.and_true]
    obtain ⟨x1, x2⟩ := x
    obtain ⟨y1, y2⟩ := y
    by_cases e1 : x1 = y1
    · by_cases e2 : x2 = y2
      · rw [decide_eq_true e1, decide_eq_true e2, decide_eq_true (by rw [e1, e2])]
        rfl
      · rw [decide_eq_false e2, decide_eq_false (fun e => e2 (Prod.mk.inj e).2), Bool.and_false]
    · rw [decide_eq_false e1, decide_eq_false (fun e => e1 (Prod.mk.inj e).1), Bool.false_and]
  lay := fun x => by
    rw [PyData.canLay0, PyData.canLayAll0, PyData.canLayAll0, PyData.canLayAll0, d.lay, e.lay]
    rfl
  dep := fun x => by
    rw [PyData.depth, PyData.depthAll, PyData.depthAll, PyData.depthAll]
    have h1 := d.dep x.1
    have h2 := e.dep x.2
    show max (f x.1).depth (max (g x.2).depth 0) + 1 ≤ _
    omega
theorem dat_tupI2 : Dat K (Tup2 K IntR IntR) (fun x => .tuple [.int x.1, .int x.2]) 1 := dat_int.tup2 dat_int
theorem Dat.shaped {R : Hp → V → α → Prop} {f : α → PyData} {n : Nat} (d : Dat K R f n) (hn : n ≤ 64) (x : α) : SeqAt.shaped (f x) = true := by
  unfold SeqAt.shaped
  rw [d.lay, decide_eq_true (Nat.le_trans (d.dep x) hn)]
  rfl
theorem rd_eqD {R : Hp → V → α → Prop} {f : α → PyData} {n : Nat} (d : Dat K R f n) (hn : n ≤ 64) {H : Hp} {Q : VK} {u v : V} {x y : α} (h1 : R H u x) (h2 : R H v y) (q : Q (.bl (decide (x = y))) H) : rEq2 K u v H Q :=
  .inr ⟨_, _, d.dp h1, d.dp h2, d.shaped hn x, d.shaped hn y, by rw [d.eqv]; exact q⟩
theorem rd_neD {R : Hp → V → α → Prop} {f : α → PyData} {n : Nat} (d : Dat K R f n) (hn : n ≤ 64) {H : Hp} {Q : VK} {u v : V} {x y : α} (h1 : R H u x) (h2 : R H v y) (q : Q (.bl (!decide (x = y))) H) : rNe2 K u v H Q :=
  .inr ⟨_, _, d.dp h1, d.dp h2, d.shaped hn x, d.shaped hn y, by rw [d.eqv]; exact q⟩
theorem tup2_of {F : Hp} {v : V} {a b : Int} (h : TupI K F v [a, b]) : Tup2 K IntR IntR F v (a, b) := by
  obtain ⟨p, rfl, hp⟩ := h
  exact ⟨p, _, _, rfl, hp, rfl, rfl⟩
end
end Wp


set_option Elab.async false
set_option linter.all false
set_option maxRecDepth 100000
set_option maxHeartbeats 4000000
namespace Wp
open PySem PySem.Spec PyProof.Rows L2
local macro_rules | `(tactic| walk_at "rd") => `(tactic| repeat (first
  | ((with_reducible apply rd_var); · exact rfl)
  | with_reducible refine rd_c ?_ | with_reducible refine rd_op ?_ | with_reducible refine rd_un ?_ | with_reducible refine rd_test ?_ | with_reducible refine rd_B ?_ | with_reducible refine rd_bl ?_
  | with_reducible refine rd_and ?_ | with_reducible refine rd_or ?_ | with_reducible refine rd_not ?_ | with_reducible refine rd_andV ?_ | with_reducible refine rd_orV ?_ | with_reducible refine rd_notV ?_ | with_reducible refine rd_ifE ?_
  | with_reducible refine rd_seq ?_ | with_reducible refine rd_asg ?_ | ((with_reducible apply rd_name); · (simp only [List.set_cons_zero, List.set_cons_succ]; exact rfl)) | with_reducible refine rd_ret ?_ | with_reducible refine rd_drop ?_ | with_reducible refine rd_if ?_ | with_reducible refine rd_next ?_ | with_reducible refine rd_break ?_ | with_reducible refine rd_cont ?_
  | with_reducible refine rd_cl ?_ | with_reducible refine rd_cb ?_ | with_reducible refine rd_mk ?_ | with_reducible refine rd_cons ?_ | with_reducible refine rd_nil ?_ | with_reducible refine rd_tup ?_ | with_reducible refine rd_lst ?_ | with_reducible refine rd_at ?_ | with_reducible refine rd_gAt ?_
  | with_reducible refine rd_isN ?_ | with_reducible refine rd_notN ?_ | with_reducible refine rd_abs ?_ | with_reducible refine rd_max ?_ | with_reducible refine rd_int ?_ | with_reducible refine rd_intB ?_ | with_reducible refine rd_consG ?_ | with_reducible refine rd_nilG ?_ | with_reducible refine rd_ipI ?_ | ((with_reducible apply rd_aug); · exact rfl)
  | with_reducible refine rd_par ?_ | with_reducible refine rd_par3 ?_ | ((with_reducible apply rd_parQ); · (simp only [List.set_cons_zero, List.set_cons_succ]; exact rfl)) | ((with_reducible apply rd_par3Q); · (simp only [List.set_cons_zero, List.set_cons_succ]; exact rfl))
  | with_reducible refine rd_yes ?_ | with_reducible refine rd_chain ?_ | with_reducible refine rd_bm ?_ | with_reducible refine rd_bm0 ?_ | with_reducible refine rd_me ?_ | with_reducible refine rd_augS ?_ | with_reducible refine rd_subG ?_ | with_reducible refine rd_forR ?_ | with_reducible refine rd_sl ?_ | with_reducible refine rd_part ?_ | with_reducible refine rd_partQ ?_ | with_reducible refine rd_noPart ?_ | with_reducible refine rd_lstRg ?_ | with_reducible refine rd_forL ?_ | with_reducible refine rd_forE ?_ | with_reducible refine rd_forZ ?_ | with_reducible refine rd_lcL ?_ | with_reducible refine rd_lcR ?_ | with_reducible refine rd_lcE ?_ | with_reducible refine rd_lcZ ?_ | with_reducible refine rd_while ?_
  | with_reducible refine iteT ?_ | with_reducible refine iteF ?_ | with_reducible refine ifNotT ?_ | with_reducible refine ifNotF ?_ | with_reducible refine rd_I0 ?_ | with_reducible refine rd_U ?_ | with_reducible refine rd_add ?_ | with_reducible refine rd_eqI ?_ | with_reducible refine rd_neI ?_ | with_reducible refine rd_eqB ?_))
local macro_rules | `(tactic| walk_at "st") => `(tactic| (intro σ hσ; simp only [L2.start, List.map_cons, List.map_nil, List.length_cons, List.length_nil, List.reduceReplicate, List.replicate_zero, List.append_nil, Nat.reduceAdd, Nat.reduceSub, List.cons_append, List.nil_append] at hσ; subst hσ; try dsimp only [cxOf, Cx.nox, Cx.wish]))
local macro_rules | `(tactic| walk_at "wp") => `(tactic| (simp only [List.map_cons, List.map_nil, wipe, List.set_cons_zero, List.set_cons_succ]))
section
variable {P : Program} {w : World} {K : PySem.W.Frag} {mg : Str → Option Value} {base : Heap}
/-! ### isinstance -/
theorem rd_isi_int {H : Hp} {Q : VK} {i : Int} (q : Q (.bl true) H) : rIsi K [.int i, .ty "int"] H Q := ⟨_, _, _, _, _, rfl, .ty "int", .base (.int i), kit_ty (by decide +kernel), q⟩
theorem rd_isi_bool {H : Hp} {Q : VK} {i : Int} (q : Q (.bl false) H) : rIsi K [.int i, .ty "bool"] H Q := ⟨_, _, _, _, _, rfl, .ty "bool", .base (.int i), kit_ty (by decide +kernel), q⟩
/-! ### is_whole -/
def sp_is_whole : Sp := fun vs H Q _ => ∃ i : Int, vs = [.int i] ∧ Q (.bl true) H
theorem ok_is_whole (T : Txt K mg) : Ok P w K mg base 1 (He.ga K "is_whole") sp_is_whole := by
  refine Ok.of T.fd_is_whole Txt.b_is_whole sc_is_whole (fun vs H Q E h => ?_) fun cdv A outer s H vs Q E hr h => ?_
  · obtain ⟨i, rfl, _⟩ := h
    rfl
  obtain ⟨i, rfl, q⟩ := h
  refine ⟨_, (pss_one (ps_ret (pe_and (pe_callB call_isi (by rfl) T.f_isinstance (by decide +kernel) (pa_cons (pv 0) (pa_cons (pe_bltn (v := .ty "int") (by rfl) T.f_int (by decide +kernel) rfl) pa_nil))) (pe_one (pe_not (pe_callB call_isi (by rfl) T.f_isinstance (by decide +kernel) (pa_cons (pv 0) (pa_cons (pe_bltn (v := .ty "bool") (by rfl) T.f_bool (by decide +kernel) rfl) pa_nil)))))))), ?_⟩
  walk_at "st"
  walk_at "rd"
  refine rd_isi_int ?_
  walk_at "rd"
  refine rd_isi_bool ?_
  walk_at "rd"
  exact q
/-! ### divisor -/
def sp_divisor : Sp := fun vs H Q _ => ∃ a b : Int, vs = [.int a, .int b] ∧ Q (.int (Int.gcd a b)) H
theorem ok_divisor (T : Txt K mg) : Ok P w K mg base 1 (He.ga K "divisor") sp_divisor := by
  refine Ok.of T.fd_divisor Txt.b_divisor sc_divisor (fun vs H Q E h => ?_) fun cdv A outer s H vs Q E hr h => ?_
  · obtain ⟨a, b, rfl, _⟩ := h
    rfl
  obtain ⟨a, b, rfl, q⟩ := h
  refine ⟨_, (pss_cons (ps_set (i := 0) sc_divisor.nd rfl (Or.inl rfl) (pe_callB call_absN (by rfl) T.f_abs (by decide +kernel) (pa_cons (pv 0) pa_nil)))
      (pss_cons (ps_set (i := 1) sc_divisor.nd rfl (Or.inl rfl) (pe_callB call_absN (by rfl) T.f_abs (by decide +kernel) (pa_cons (pv 1) pa_nil)))
      (pss_cons (ps_while PassesOwn.never (pt_cmpR op_gt (pv 1) pe_int (nomark _)) (pss_cons (ps_set (i := 2) sc_divisor.nd rfl (Or.inl rfl) (pe_op op_mod (pv 0) (pv 1)))
      (pss_cons (ps_set (i := 0) sc_divisor.nd rfl (Or.inl rfl) (pv 1))
      (pss_one (ps_set (i := 1) sc_divisor.nd rfl (Or.inl rfl) (pv 2))))))
      (pss_one (ps_ret (pv 0)))))), ?_⟩
  walk_at "st"
  walk_at "rd"
  refine rd_while ⟨fun m σ H' => H' = H ∧ ∃ (x y : Nat) (r : Option V), σ = [some (.int x), some (.int y), r] ∧ m = y ∧ Nat.gcd x y = Int.gcd a b,
    ⟨_, rfl, _, _, _, rfl, rfl, rfl⟩, ?_⟩
  rintro y σ H' ⟨rfl, x, _, r, rfl, rfl, hg⟩
  walk_at "rd"
  refine ifD (fun h0 => ?_) fun h0 => ?_
  · refine ⟨fun σ H'' => H'' = H' ∧ ∃ r, σ = [some (.int y), some (.int (x % y : Nat)), r], ?_, ?_⟩
    · rintro σ' H'' ⟨rfl, r, rfl⟩
      refine ⟨x % y, Nat.mod_lt _ (by omega), rfl, _, _, _, rfl, rfl, ?_⟩
      rw [← hg, Nat.gcd_comm x y, Nat.gcd_rec y x, Nat.gcd_comm]
    · walk_at "rd"
      refine rd_I h0 ?_
      walk_at "rd"
      exact ⟨rfl, _, rfl⟩
  · walk_at "rd"
    have hy0 : y = 0 := by omega
    subst hy0
    rw [Nat.gcd_zero_right] at hg
    rw [hg]
    exact q
/-! ### under -/
def sp_under (K : PySem.W.Frag) : Sp := fun vs H Q _ => ∃ (v1 v2 : V) (a b c d : Int), vs = [v1, v2] ∧ TupI K H v1 [a, b] ∧ TupI K H v2 [c, d] ∧ (-(2 ^ 64) < b ∧ b < 2 ^ 64) ∧ (-(2 ^ 64) < d ∧ d < 2 ^ 64) ∧ Q (.bl (decide (a * d < c * b))) H
theorem ok_under (T : Txt K mg) : Ok P w K mg base 1 (He.ga K "under") (sp_under K) := by
  refine Ok.of T.fd_under Txt.b_under sc_under (fun vs H Q E h => ?_) fun cdv A outer s H vs Q E hr h => ?_
  · obtain ⟨_, _, _, _, _, _, rfl, _⟩ := h
    rfl
  obtain ⟨_, _, a, b, c, d, rfl, ⟨p, rfl, hp⟩, ⟨q', rfl, hq⟩, hb, hd, q⟩ := h
  refine ⟨_, (pss_one (ps_ret (pe_cmpR op_lt (pe_op op_mul2 (pe_ix ix_seq (pv 0) pe_int (fun _ _ => rfl)) (pe_ix ix_seq (pv 1) pe_int (fun _ _ => rfl))) (pe_op op_mul2 (pe_ix ix_seq (pv 1) pe_int (fun _ _ => rfl)) (pe_ix ix_seq (pv 0) pe_int (fun _ _ => rfl))) (nomark _)))), ?_⟩
  walk_at "st"
  walk_at "rd"
  refine rd_ixT hp rfl ?_
  walk_at "rd"
  refine rd_ixT hq rfl ?_
  refine rd_mul (.inr hd) ?_
  walk_at "rd"
  refine rd_ixT hq rfl ?_
  walk_at "rd"
  refine rd_ixT hp rfl ?_
  refine rd_mul (.inr hb) ?_
  walk_at "rd"
  exact q
/-! ### up -/
def sp_up : Sp := fun vs H Q _ => ∃ t b : Int, vs = [.int t, .int b] ∧ CDiv t b ∧ ∀ H', Same H H' → Q (.int (upI t b)) H'
theorem ok_up (T : Txt K mg) : Ok P w K mg base 1 (He.ga K "up") sp_up := by
  refine Ok.of T.fd_up Txt.b_up sc_up (fun vs H Q E h => ?_) fun cdv A outer s H vs Q E hr h => ?_
  · obtain ⟨_, _, rfl, _⟩ := h
    rfl
  obtain ⟨t, b, rfl, hd, q⟩ := h
  refine ⟨_, (pss_cons (ps_asg (pe_callB call_divmodN (by rfl) T.f_divmod (by decide +kernel) (pa_cons (pv 0) (pa_cons (pv 1) pa_nil))) (pg_tup rfl (pgs_cons (pg_name (i := 2) sc_up.nd rfl (Or.inl rfl)) (pgs_cons (pg_name (i := 3) sc_up.nd rfl (Or.inl rfl)) pgs_nil))))
      (pss_cons (ps_if (pt_cmpR op_gt (pv 3) pe_int (nomark _)) (pss_one (ps_aug (i := 2) sc_up.nd rfl (Or.inl rfl) pe_int ip_add)) pss_nil)
      (pss_one (ps_ret (pv 2))))), ?_⟩
  walk_at "st"
  walk_at "rd"
  refine rd_divmod hd fun p hp => ?_
  refine rd_tupG (SqT.of upd_same) rfl ?_
  walk_at "rd"
  refine ifD (fun h => ?_) fun h => ?_
  · walk_at "rd"
    have e : t / b + 1 = upI t b := (if_pos h).symm
    rw [e]
    exact q _ (same_new hp)
  · walk_at "rd"
    have e : t / b = upI t b := (if_neg h).symm
    rw [e]
    exact q _ (same_new hp)
/-! ### fraction -/
def sp_fraction (K : PySem.W.Frag) : Sp := fun vs H Q _ => ∃ (F : Hp) (t b : Int), vs = [.int t, .int b] ∧ Same F H ∧ 0 < b ∧ b < 1000000 ∧ ∀ v F' H', Xt F H F' H' → TupI K F' v [(low t b).1, (low t b).2] → Q v H'
theorem gcd_bd {t b : Int} (h0 : 0 < b) (h1 : b < 1000000) : CDiv t (Int.gcd t b : Int) := by
  have h2 : Int.gcd t b ∣ b.natAbs := Int.gcd_dvd_natAbs_right t b
  have h3 := Nat.le_of_dvd (by omega) h2
  have h4 : 0 < Int.gcd t b := Nat.pos_of_dvd_of_pos h2 (by omega)
  exact ⟨by omega, by omega⟩
theorem ok_fraction (T : Txt K mg) : Ok P w K mg base 2 (He.ga K "fraction") (sp_fraction K) := by
  refine Ok.of T.fd_fraction Txt.b_fraction sc_fraction (fun vs H Q E h => ?_) fun cdv A outer s H vs Q E hr h => ?_
  · obtain ⟨_, _, _, rfl, _⟩ := h
    rfl
  obtain ⟨F, t, b, rfl, fh, h0, h1, q⟩ := h
  refine ⟨_, (pss_cons (ps_if (PW.pt (pw_or (pt_not (pt_val (pe_cl (ok_is_whole T) (hr.mono (by decide)) (by rfl) T.g_is_whole (pa_cons (pv 0) pa_nil)))) (pw_or1 (pt_not (pt_val (pe_cl (ok_is_whole T) (hr.mono (by decide)) (by rfl) T.g_is_whole (pa_cons (pv 1) pa_nil))))))) (pss_one ps_never) pss_nil)
      (pss_cons (ps_if (pt_cmpR (op_eq2 hr) (pv 1) pe_int (nomark _)) (pss_one ps_never) pss_nil)
      (pss_cons (ps_set (i := 2) sc_fraction.nd rfl (Or.inl rfl) (pe_cl (ok_divisor T) (hr.mono (by decide)) (by rfl) T.g_divisor (pa_cons (pv 0) (pa_cons (pv 1) pa_nil))))
      (pss_cons (ps_if (pt_cmpR op_lt (pv 1) pe_int (nomark _)) (pss_one (ps_set (i := 2) sc_fraction.nd rfl (Or.inl rfl) (pe_un un_neg (pv 2)))) pss_nil)
      (pss_one (ps_ret (pe_tup (pa_cons (pe_op op_fdiv (pv 0) (pv 2)) (pa_cons (pe_op op_fdiv (pv 1) (pv 2)) pa_nil))))))))), ?_⟩
  walk_at "st"
  walk_at "rd"
  refine ⟨t, rfl, ?_⟩
  walk_at "rd"
  refine ⟨b, rfl, ?_⟩
  walk_at "rd"
  refine ifF (by omega) ?_
  walk_at "rd"
  refine ⟨t, b, rfl, ?_⟩
  walk_at "rd"
  refine ifF (by omega) ?_
  walk_at "rd"
  refine rd_I (gcd_bd h0 h1) ?_
  walk_at "rd"
  refine rd_I (gcd_bd h0 h1) ?_
  walk_at "rd"
  refine ⟨szl (by simp), fun p hp => ?_⟩
  exact q _ _ _ ((Xt.refl fh).new hp) ⟨p, rfl, SqT.of upd_same⟩
end
end Wp


set_option Elab.async false
set_option linter.all false
set_option maxRecDepth 100000
set_option maxHeartbeats 4000000
namespace Wp
open PySem PySem.Spec PyProof.Rows L2
local macro_rules | `(tactic| walk_at "rd") => `(tactic| repeat (first
  | ((with_reducible apply rd_var); · exact rfl)
  | with_reducible refine rd_c ?_ | with_reducible refine rd_op ?_ | with_reducible refine rd_un ?_ | with_reducible refine rd_test ?_ | with_reducible refine rd_B ?_ | with_reducible refine rd_bl ?_
  | with_reducible refine rd_and ?_ | with_reducible refine rd_or ?_ | with_reducible refine rd_not ?_ | with_reducible refine rd_andV ?_ | with_reducible refine rd_orV ?_ | with_reducible refine rd_notV ?_ | with_reducible refine rd_ifE ?_
  | with_reducible refine rd_seq ?_ | with_reducible refine rd_asg ?_ | ((with_reducible apply rd_name); · (simp only [List.set_cons_zero, List.set_cons_succ]; exact rfl)) | with_reducible refine rd_ret ?_ | with_reducible refine rd_drop ?_ | with_reducible refine rd_if ?_ | with_reducible refine rd_next ?_ | with_reducible refine rd_break ?_ | with_reducible refine rd_cont ?_
  | with_reducible refine rd_cl ?_ | with_reducible refine rd_cb ?_ | with_reducible refine rd_mk ?_ | with_reducible refine rd_cons ?_ | with_reducible refine rd_nil ?_ | with_reducible refine rd_tup ?_ | with_reducible refine rd_lst ?_ | with_reducible refine rd_at ?_ | with_reducible refine rd_gAt ?_
  | with_reducible refine rd_isN ?_ | with_reducible refine rd_notN ?_ | with_reducible refine rd_abs ?_ | with_reducible refine rd_max ?_ | with_reducible refine rd_int ?_ | with_reducible refine rd_intB ?_ | with_reducible refine rd_consG ?_ | with_reducible refine rd_nilG ?_ | with_reducible refine rd_ipI ?_ | ((with_reducible apply rd_aug); · exact rfl)
  | with_reducible refine rd_par ?_ | with_reducible refine rd_par3 ?_ | ((with_reducible apply rd_parQ); · (simp only [List.set_cons_zero, List.set_cons_succ]; exact rfl)) | ((with_reducible apply rd_par3Q); · (simp only [List.set_cons_zero, List.set_cons_succ]; exact rfl))
  | with_reducible refine rd_yes ?_ | with_reducible refine rd_chain ?_ | with_reducible refine rd_bm ?_ | with_reducible refine rd_bm0 ?_ | with_reducible refine rd_me ?_ | with_reducible refine rd_augS ?_ | with_reducible refine rd_subG ?_ | with_reducible refine rd_forR ?_ | with_reducible refine rd_sl ?_ | with_reducible refine rd_part ?_ | with_reducible refine rd_partQ ?_ | with_reducible refine rd_noPart ?_ | with_reducible refine rd_lstRg ?_ | with_reducible refine rd_forL ?_ | with_reducible refine rd_forE ?_ | with_reducible refine rd_forZ ?_ | with_reducible refine rd_lcL ?_ | with_reducible refine rd_lcR ?_ | with_reducible refine rd_lcE ?_ | with_reducible refine rd_lcZ ?_ | with_reducible refine rd_while ?_
  | with_reducible refine iteT ?_ | with_reducible refine iteF ?_ | with_reducible refine ifNotT ?_ | with_reducible refine ifNotF ?_ | with_reducible refine rd_I0 ?_ | with_reducible refine rd_U ?_ | with_reducible refine rd_add ?_ | with_reducible refine rd_eqI ?_ | with_reducible refine rd_neI ?_ | with_reducible refine rd_eqB ?_))
local macro_rules | `(tactic| walk_at "st") => `(tactic| (intro σ hσ; simp only [L2.start, List.map_cons, List.map_nil, List.length_cons, List.length_nil, List.reduceReplicate, List.replicate_zero, List.append_nil, Nat.reduceAdd, Nat.reduceSub, List.cons_append, List.nil_append] at hσ; subst hσ; try dsimp only [cxOf, Cx.nox, Cx.wish]))
local macro_rules | `(tactic| walk_at "wp") => `(tactic| (simp only [List.map_cons, List.map_nil, wipe, List.set_cons_zero, List.set_cons_succ]))
section
variable {P : Program} {w : World} {K : PySem.W.Frag} {mg : Str → Option Value} {base : Heap}
section
variable {F H : Hp} {v : V} {Q : VK} {f : Bool} {st : Int}
theorem WayR.step (T : Txt K mg) (h : WayR K F v f st) (s : Same F H) (q : Q (.int st) H) : rAt K "step" v H Q := by
  rcases h with ⟨c, h, _, rfl⟩ | ⟨c, h, _, rfl⟩
  · exact h.step T s q
  · exact h.step T s q
theorem WayR.lots (T : Txt K mg) (h : WayR K F v f st) (s : Same F H) (q : ∀ l, SqL K F l ((lotsOf f).map .int) → Q (.ref l) H) : rAt K "lots" v H Q := by
  rcases h with ⟨c, h, rfl, _⟩ | ⟨c, h, rfl, _⟩
  · exact h.lots T s q
  · exact h.lots T s q
theorem rd_index {l : Addr} {a : Int} (h : SqL K H l ((lotsOf f).map .int)) (ha : a = 0 ∨ a = 1) (q : Q (.int (ixl f a)) H) : rIndex K (.ref l) [.int a] H Q := by
  refine ⟨l, _, .int a, (ixl f a).toNat, .int a, rfl, rfl, h, rfl, ?_, ?_, ?_, ?_, ?_⟩
  · cases f <;> rfl
  · rcases ha with rfl | rfl <;> cases f <;> rfl
  · simp [eqV]
  · intro m z' hm hz
    rcases ha with rfl | rfl <;> cases f <;> simp [ixl, lotsOf] at hm hz
    · subst hm
      simp at hz
      subst hz
      rfl
    · subst hm
      simp at hz
      subst hz
      rfl
  · have e : ((ixl f a).toNat : Int) = ixl f a := by
      rcases ha with rfl | rfl <;> cases f <;> rfl
    rw [e]
    exact q
end
/-! ### ahead, mark -/
def sp_ahead (K : PySem.W.Frag) : Sp := fun vs H Q _ => ∃ (v : V) (F : Hp) (f : Bool) (st a b : Int), vs = [v, .int a, .int b] ∧ Same F H ∧ WayR K F v f st ∧ (a = 0 ∨ a = 1) ∧ (b = 0 ∨ b = 1) ∧ Q (.bl (decide (ixl f a < ixl f b))) H
theorem ok_Way_ahead (T : Txt K mg) : Ok P w K mg base 1 (He.ma K (He.ga K "Way") "ahead") (sp_ahead K) := by
  refine Ok.of T.fd_Way_ahead Txt.b_Way_ahead sc_Way_ahead (fun vs H Q E h => ?_) fun cdv A outer s H vs Q E hr h => ?_
  · obtain ⟨_, _, _, _, _, _, rfl, _⟩ := h
    rfl
  obtain ⟨v, F, f, st, a, b, rfl, s, hw, ha, hb, q⟩ := h
  refine ⟨_, (pss_one (ps_ret (pe_cmpR op_lt (pe_bm PySem.F.plainAttrs_list PySem.F.slot_list_index PySem.F.type_list_index mt_index (pe_at (pv 0)) (pa_cons (pv 1) pa_nil)) (pe_bm PySem.F.plainAttrs_list PySem.F.slot_list_index PySem.F.type_list_index mt_index (pe_at (pv 0)) (pa_cons (pv 2) pa_nil)) (nomark _)))), ?_⟩
  walk_at "st"
  walk_at "rd"
  refine hw.lots T s fun l hl => ?_
  refine ⟨ty_list (s.seq hl), ?_⟩
  walk_at "rd"
  refine rd_index (s.seq hl) ha ?_
  walk_at "rd"
  refine hw.lots T s fun l2 hl2 => ?_
  refine ⟨ty_list (s.seq hl2), ?_⟩
  walk_at "rd"
  refine rd_index (s.seq hl2) hb ?_
  walk_at "rd"
  exact q
theorem ok_Land_ahead (T : Txt K mg) : Ok P w K mg base 1 (He.ma K (He.ga K "Land") "ahead") (sp_ahead K) := by
  refine Ok.of T.fd_Land_ahead Txt.b_Land_ahead sc_Land_ahead (fun vs H Q E h => ?_) fun cdv A outer s H vs Q E hr h => ?_
  · obtain ⟨_, _, _, _, _, _, rfl, _⟩ := h
    rfl
  obtain ⟨v, F, f, st, a, b, rfl, s, hw, ha, hb, q⟩ := h
  refine ⟨_, (pss_one (ps_ret (pe_cmpR op_lt (pe_bm PySem.F.plainAttrs_list PySem.F.slot_list_index PySem.F.type_list_index mt_index (pe_at (pv 0)) (pa_cons (pv 1) pa_nil)) (pe_bm PySem.F.plainAttrs_list PySem.F.slot_list_index PySem.F.type_list_index mt_index (pe_at (pv 0)) (pa_cons (pv 2) pa_nil)) (nomark _)))), ?_⟩
  walk_at "st"
  walk_at "rd"
  refine hw.lots T s fun l hl => ?_
  refine ⟨ty_list (s.seq hl), ?_⟩
  walk_at "rd"
  refine rd_index (s.seq hl) ha ?_
  walk_at "rd"
  refine hw.lots T s fun l2 hl2 => ?_
  refine ⟨ty_list (s.seq hl2), ?_⟩
  walk_at "rd"
  refine rd_index (s.seq hl2) hb ?_
  walk_at "rd"
  exact q
def sp_mark (K : PySem.W.Frag) : Sp := fun vs H Q _ => ∃ (v : V) (F : Hp) (f : Bool) (st m n : Int), vs = [v, .int m, .int n] ∧ Same F H ∧ WayR K F v f st ∧ 0 ≤ n ∧ n ≤ 1000 ∧
  ∀ w F' H', Xt F H F' H' → TupI K F' w [(low m (1 + st * n)).1, (low m (1 + st * n)).2] → Q w H'
theorem st_bd {st n : Int} (h : st = 1 ∨ st = 2) (h0 : 0 ≤ n) (h1 : n ≤ 1000) : 0 < 1 + st * n ∧ 1 + st * n < 1000000 := by
  rcases h with rfl | rfl <;> omega
theorem ok_Lists_mark (T : Txt K mg) : Ok P w K mg base 3 (He.ma K (He.ga K "Lists") "mark") (sp_mark K) := by
  refine Ok.of T.fd_Lists_mark Txt.b_Lists_mark sc_Lists_mark (fun vs H Q E h => ?_) fun cdv A outer s H vs Q E hr h => ?_
  · obtain ⟨_, _, _, _, _, _, rfl, _⟩ := h
    rfl
  obtain ⟨v, F, f, st, m, n, rfl, s, hw, h0, h1, q⟩ := h
  refine ⟨_, (pss_one (ps_ret (pe_cl (ok_fraction T) (hr.mono (by decide)) (by rfl) T.g_fraction (pa_cons (pv 1) (pa_cons (pe_op op_add2 pe_int (pe_op op_mul2 (pe_at (pv 0)) (pv 2))) pa_nil))))), ?_⟩
  walk_at "st"
  walk_at "rd"
  refine hw.step T s ?_
  walk_at "rd"
  refine rd_mul (.inr ⟨by omega, by omega⟩) ?_
  walk_at "rd"
  exact ⟨F, m, 1 + st * n, rfl, s, (st_bd hw.st h0 h1).1, (st_bd hw.st h0 h1).2, fun v' F' H' x hx => q v' F' H' x hx⟩
theorem ok_Land_mark (T : Txt K mg) : Ok P w K mg base 3 (He.ma K (He.ga K "Land") "mark") (sp_mark K) := by
  refine Ok.of T.fd_Land_mark Txt.b_Land_mark sc_Land_mark (fun vs H Q E h => ?_) fun cdv A outer s H vs Q E hr h => ?_
  · obtain ⟨_, _, _, _, _, _, rfl, _⟩ := h
    rfl
  obtain ⟨v, F, f, st, m, n, rfl, s, hw, h0, h1, q⟩ := h
  refine ⟨_, (pss_one (ps_ret (pe_cl (ok_fraction T) (hr.mono (by decide)) (by rfl) T.g_fraction (pa_cons (pv 1) (pa_cons (pe_op op_add2 pe_int (pe_op op_mul2 (pe_at (pv 0)) (pv 2))) pa_nil))))), ?_⟩
  walk_at "st"
  walk_at "rd"
  refine hw.step T s ?_
  walk_at "rd"
  refine rd_mul (.inr ⟨by omega, by omega⟩) ?_
  walk_at "rd"
  exact ⟨F, m, 1 + st * n, rfl, s, (st_bd hw.st h0 h1).1, (st_bd hw.st h0 h1).2, fun v' F' H' x hx => q v' F' H' x hx⟩
theorem WayR.me_mark {F H : Hp} {v : V} {f : Bool} {st : Int} (T : Txt K mg) (h : WayR K F v f st) (s : Same F H) : ∃ g sp, IsMe K v H "mark" g ∧ Ok P w K mg base 3 g sp ∧ sp = sp_mark K := by
  rcases h with ⟨c, h, _⟩ | ⟨c, h, _⟩
  · exact ⟨_, _, h.me T s T.m_Lists_mark rfl, ok_Lists_mark T, rfl⟩
  · exact ⟨_, _, h.me T s T.m_Land_mark, ok_Land_mark T, rfl⟩
theorem WayR.me_ahead {F H : Hp} {v : V} {f : Bool} {st : Int} (T : Txt K mg) (h : WayR K F v f st) (s : Same F H) : ∃ g sp, IsMe K v H "ahead" g ∧ Ok P w K mg base 1 g sp ∧ sp = sp_ahead K := by
  rcases h with ⟨c, h, _⟩ | ⟨c, h, _⟩
  · exact ⟨_, _, h.me T s T.m_Lists_ahead rfl, ok_Way_ahead T, rfl⟩
  · exact ⟨_, _, h.me T s T.m_Land_ahead, ok_Land_ahead T, rfl⟩
theorem WayR.go_mark {F H : Hp} {v : V} {f : Bool} {st : Int} {k : Nat} {ts : TA} {σ : L2.St} {Q : VK} (T : Txt K mg) (h : WayR K F v f st) (s : Same F H) (hk : 3 ≤ k) (q : ts σ H fun vs H2 => sp_mark K (v :: vs) H2 Q E0) :
    ∃ g sp, IsMe K v H "mark" g ∧ Ok P w K mg base k g sp ∧ ts σ H fun vs H2 => sp (v :: vs) H2 Q E0 := by
  obtain ⟨g, sp, h1, h2, rfl⟩ := h.me_mark (P := P) (w := w) (base := base) T s
  exact ⟨g, _, h1, h2.mono hk, q⟩
theorem WayR.go_ahead {F H : Hp} {v : V} {f : Bool} {st : Int} {k : Nat} {ts : TA} {σ : L2.St} {Q : VK} (T : Txt K mg) (h : WayR K F v f st) (s : Same F H) (hk : 1 ≤ k) (q : ts σ H fun vs H2 => sp_ahead K (v :: vs) H2 Q E0) :
    ∃ g sp, IsMe K v H "ahead" g ∧ Ok P w K mg base k g sp ∧ ts σ H fun vs H2 => sp (v :: vs) H2 Q E0 := by
  obtain ⟨g, sp, h1, h2, rfl⟩ := h.me_ahead (P := P) (w := w) (base := base) T s
  exact ⟨g, _, h1, h2.mono hk, q⟩
/-! ### marks -/
def sp_marks_of (K : PySem.W.Frag) : Sp := fun vs H Q _ => ∃ (v vo ha : V) (F : Hp) (f : Bool) (st w v0 v1 vi h0 h1 : Int), vs = [v, vo, .int w, ha] ∧ Same F H ∧ WayR K F v f st ∧ ILst K F vo [v0, v1, vi] ∧ (∃ l, ha = .ref l ∧ SqL K H l [.int h0, .int h1]) ∧ 0 ≤ h0 ∧ h0 ≤ 1000 ∧ 0 ≤ h1 ∧ h1 ≤ 1000 ∧
  ∀ u F' H', Xt F H F' H' → LstR K (MarkR K) F' u [mk st w v0 h0, mk st w v1 h1] → Q u H'
theorem ok_marks_of (T : Txt K mg) : Ok P w K mg base 4 (He.ga K "marks_of") (sp_marks_of K) := by
  refine Ok.of T.fd_marks_of Txt.b_marks_of sc_marks_of (fun vs H Q E h => ?_) fun cdv A outer s H vs Q E hr h => ?_
  · obtain ⟨_, _, _, _, _, _, _, _, _, _, _, _, rfl, _⟩ := h
    rfl
  obtain ⟨v, vo, ha, F, f, st, w', v0, v1, vi, h0, h1, rfl, s, hw, hv, ⟨l, rfl, hl⟩, a0, a1, b0, b1, q⟩ := h
  refine ⟨_, (pss_cons (ps_set (i := 4) sc_marks_of.nd rfl (Or.inl rfl) (pe_lst pa_nil))
      (pss_cons (ps_for PassesOwn.never rfl (pi_range1 (by rfl) T.f_range (pa_cons (pe_at (pv 0)) pa_nil)) (pg_name (i := 5) sc_marks_of.nd rfl (Or.inl rfl)) (pss_one (ps_if (pt_cmpR op_lt (pe_ix ix_seq (pv 1) (pv 5) (fun _ _ => rfl)) (pv 2) (nomark _)) (pss_one (ps_expr (pe_bm PySem.F.plainAttrs_list PySem.F.slot_list_append PySem.F.type_list_append mt_append (pv 4) (pa_cons pe_non pa_nil)))) (pss_one (ps_expr (pe_bm PySem.F.plainAttrs_list PySem.F.slot_list_append PySem.F.type_list_append mt_append (pv 4) (pa_cons (pe_me (k := 3) (hr.mono (by decide)) (pv 0) (pa_cons (pe_ix ix_seq (pv 1) (pv 5) (fun _ _ => rfl)) (pa_cons (pe_ix ix_seq (pv 3) (pv 5) (fun _ _ => rfl)) pa_nil))) pa_nil)))))))
      (pss_one (ps_ret (pv 4))))), ?_⟩
  walk_at "st"
  walk_at "rd"
  refine ⟨szl (by simp), fun p hp => ?_⟩
  obtain ⟨lv, rfl, hlv⟩ := ilst_to hv
  have o := Own.new (acc := []) s hp
  walk_at "rd"
  refine hw.hands T o.x.fH ?_
  walk_at "rd"
  have at_v : ∀ i : Nat, i < 2 → atI ([v0, v1, vi].map V.int) (i : Int) = some (.int ([v0, v1].getD i 0)) := fun i hi => match i, hi with
    | 0, _ => rfl
    | 1, _ => rfl
  have at_h : ∀ i : Nat, i < 2 → atI [V.int h0, V.int h1] (i : Int) = some (.int ([h0, h1].getD i 0)) := fun i hi => match i, hi with
    | 0, _ => rfl
    | 1, _ => rfl
  have h_bd : ∀ i : Nat, i < 2 → 0 ≤ [h0, h1].getD i 0 ∧ [h0, h1].getD i 0 ≤ 1000 := fun i hi => match i, hi with
    | 0, _ => ⟨a0, a1⟩
    | 1, _ => ⟨b0, b1⟩
  have tk : ∀ i : Nat, i < 2 → [mk st w' v0 h0, mk st w' v1 h1].take (i + 1) = [mk st w' v0 h0, mk st w' v1 h1].take i ++ [mk st w' ([v0, v1].getD i 0) ([h0, h1].getD i 0)] := fun i hi => match i, hi with
    | 0, _ => rfl
    | 1, _ => rfl
  refine fo_rng (n := 2) (fun i σ H' => ∃ F1 acc y, σ = [some v, some (.ref lv), some (.int w'), some (.ref l), some (.ref p), y] ∧ Own F H F1 H' p acc ∧ All2 (MarkR K F1) acc ([mk st w' v0 h0, mk st w' v1 h1].take i)) (by omega)
    ⟨F, [], _, rfl, o, .nil⟩ ?_ ?_
  · rintro i σ H1 hi ⟨F1, acc, y, rfl, o, ha⟩
    have hal : acc.length < 1000 := by
      rw [ha.length, List.length_take]
      exact Nat.lt_of_le_of_lt (Nat.min_le_right _ _) (by simp)
    walk_at "rd"
    refine rd_ixL (o.x.sl hlv) (at_v i hi) ?_
    walk_at "rd"
    refine ifD (fun c => ?_) fun c => ?_
    · walk_at "rd"
      refine ⟨ty_list (SqL.of o.e), ?_⟩
      walk_at "rd"
      refine rd_append o.e hal ?_
      refine ⟨F1, _, _, rfl, o.set, ?_⟩
      rw [tk i hi]
      exact ha.snoc (show MarkR K F1 .non (mk st w' _ _) by rw [show mk st w' ([v0, v1].getD i 0) ([h0, h1].getD i 0) = none from if_pos c]; rfl)
    · walk_at "rd"
      refine ⟨ty_list (SqL.of o.e), ?_⟩
      walk_at "rd"
      refine (hw.mono o.x.ff).go_mark T o.x.sub (by decide) ?_
      walk_at "rd"
      refine rd_ixL (o.x.sl hlv) (at_v i hi) ?_
      walk_at "rd"
      refine rd_ixL (o.x.hh.seq hl) (at_h i hi) ?_
      walk_at "rd"
      refine ⟨v, F1, f, st, _, _, rfl, o.x.sub, hw.mono o.x.ff, (h_bd i hi).1, (h_bd i hi).2, fun u F2 H2 x2 hu => ?_⟩
      have o2 := o.step x2
      walk_at "rd"
      refine rd_append o2.e hal ?_
      refine ⟨F2, _, _, rfl, o2.set, ?_⟩
      rw [tk i hi]
      exact (ha.imp fun _ _ => Mono.mono x2.ff).snoc (show MarkR K F2 u (mk st w' _ _) by rw [show mk st w' ([v0, v1].getD i 0) ([h0, h1].getD i 0) = some (low _ _) from if_neg c]; exact hu)
  · rintro σ H1 ⟨F1, acc, y, rfl, o, ha⟩
    walk_at "rd"
    exact q _ _ _ o.fin ⟨p, acc, rfl, SqL.of upd_same, (ha.imp fun _ _ => Mono.mono o.ff)⟩
/-! ### which mark goes ahead; the seat -/
theorem rd_eqT2 {H : Hp} {Q : VK} {u v : V} {a b c d : Int} (h1 : TupI K H u [a, b]) (h2 : TupI K H v [c, d]) (q : Q (.bl (decide ((a, b) = (c, d)))) H) : rEq2 K u v H Q :=
  rd_eqD dat_tupI2 (by decide) (tup2_of h1) (tup2_of h2) q
def PB (p : Int × Int) : Prop := -(2 ^ 64) < p.2 ∧ p.2 < 2 ^ 64
/-- of two marks -/
def gtM (f : Bool) (p q : Int × Int) : Bool := decide (p.1 * q.2 < q.1 * p.2) || (decide (p = q) && !f)
def sp_goes_ahead (K : PySem.W.Frag) : Sp := fun vs H Q _ => ∃ (v ms : V) (F : Hp) (f : Bool) (st : Int) (p q : Int × Int), vs = [v, ms, .int 1, .int 0] ∧ Same F H ∧ WayR K F v f st ∧ LstR K (MarkR K) F ms [some p, some q] ∧ PB p ∧ PB q ∧ Q (.bl (gtM f p q)) H
theorem ok_goes_ahead (T : Txt K mg) : Ok P w K mg base 2 (He.ga K "goes_ahead") (sp_goes_ahead K) := by
  refine Ok.of T.fd_goes_ahead Txt.b_goes_ahead sc_goes_ahead (fun vs H Q E h => ?_) fun cdv A outer s H vs Q E hr h => ?_
  · obtain ⟨_, _, _, _, _, _, _, rfl, _⟩ := h
    rfl
  obtain ⟨v, ms, F, f, st, ⟨pa, pb⟩, ⟨qa, qb⟩, rfl, s, hw, ⟨l, ws, rfl, hl, ha⟩, hp, hq, q⟩ := h
  cases ha with
  | cons r1 ha =>
  cases ha with
  | cons r2 ha =>
  cases ha
  refine ⟨_, (pss_cons (ps_if (pt_val (pe_cl (ok_under T) (hr.mono (by decide)) (by rfl) T.g_under (pa_cons (pe_ix ix_seq (pv 1) (pv 3) (fun _ _ => rfl)) (pa_cons (pe_ix ix_seq (pv 1) (pv 2) (fun _ _ => rfl)) pa_nil)))) (pss_one (ps_ret pe_bl)) pss_nil)
      (pss_one (ps_ret (pe_and (pe_cmpR (op_eq2 hr) (pe_ix ix_seq (pv 1) (pv 3) (fun _ _ => rfl)) (pe_ix ix_seq (pv 1) (pv 2) (fun _ _ => rfl)) (nomark _)) (pe_one (pe_me (k := 1) (hr.mono (by decide)) (pv 0) (pa_cons (pv 2) (pa_cons (pv 3) pa_nil)))))))), ?_⟩
  walk_at "st"
  walk_at "rd"
  refine rd_ixL (s.seq hl) rfl ?_
  walk_at "rd"
  refine rd_ixL (s.seq hl) rfl ?_
  walk_at "rd"
  refine ⟨_, _, pa, pb, qa, qb, rfl, sm_mo s (R := TupI K) r1, sm_mo s (R := TupI K) r2, hp, hq, ?_⟩
  walk_at "rd"
  refine ifD (fun c => ?_) fun c => ?_
  · walk_at "rd"
    have e : gtM f (pa, pb) (qa, qb) = true := by simp [gtM, c]
    rw [e] at q
    exact q
  · walk_at "rd"
    refine rd_ixL (s.seq hl) rfl ?_
    walk_at "rd"
    refine rd_ixL (s.seq hl) rfl ?_
    refine rd_eqT2 (sm_mo s (R := TupI K) r1) (sm_mo s (R := TupI K) r2) ?_
    walk_at "rd"
    refine ifD (fun d => ?_) fun d => ?_
    · walk_at "rd"
      refine hw.go_ahead T s (by decide) ?_
      walk_at "rd"
      refine ⟨v, F, f, st, _, _, rfl, s, hw, .inr rfl, .inl rfl, ?_⟩
      have e : gtM f (pa, pb) (qa, qb) = decide (ixl f 1 < ixl f 0) := by
        unfold gtM
        rw [decide_eq_true d, decide_eq_false c]
        cases f <;> rfl
      rw [e] at q
      exact q
    · walk_at "rd"
      have e : gtM f (pa, pb) (qa, qb) = false := by
        unfold gtM
        rw [decide_eq_false d, decide_eq_false c]
        rfl
      rw [e] at q
      exact q
def bV (b : Option Bool) : V := match b with
  | none => .non
  | some b => .int (hI b)
def OB (o : Option (Int × Int)) : Prop := ∀ p, o = some p → PB p
def sp_seat_due (K : PySem.W.Frag) : Sp := fun vs H Q _ => ∃ (v ms : V) (F : Hp) (f : Bool) (st : Int) (p q : Option (Int × Int)), vs = [v, ms] ∧ Same F H ∧ WayR K F v f st ∧ LstR K (MarkR K) F ms [p, q] ∧ OB p ∧ OB q ∧ Q (bV (pickM f p q)) H
theorem ok_seat_due (T : Txt K mg) : Ok P w K mg base 3 (He.ga K "seat_due") (sp_seat_due K) := by
  refine Ok.of T.fd_seat_due Txt.b_seat_due sc_seat_due (fun vs H Q E h => ?_) fun cdv A outer s H vs Q E hr h => ?_
  · obtain ⟨_, _, _, _, _, _, _, rfl, _⟩ := h
    rfl
  obtain ⟨v, ms, F, f, st, p, q', rfl, s, hw, hL, hp, hq, q⟩ := h
  obtain ⟨l, ws, rfl, hl, ha⟩ := id hL
  cases ha with
  | cons r1 ha =>
  cases ha with
  | cons r2 ha =>
  cases ha
  refine ⟨_, (pss_cons (ps_set (i := 2) sc_seat_due.nd rfl (Or.inl rfl) pe_non)
      (pss_cons (ps_for PassesOwn.never rfl (pi_range1 (by rfl) T.f_range (pa_cons (pe_at (pv 0)) pa_nil)) (pg_name (i := 3) sc_seat_due.nd rfl (Or.inl rfl)) (pss_one (ps_if (PW.pt (pw_and (pt_cmpR op_notNN (pe_ix ix_seq (pv 1) (pv 3) (fun _ _ => rfl)) pe_non (nomark _)) (pw_and1 (PW.pt (pw_or (pt_cmpR op_isNN (pv 2) pe_non (nomark _)) (pw_or1 (pt_val (pe_cl (ok_goes_ahead T) (hr.mono (by decide)) (by rfl) T.g_goes_ahead (pa_cons (pv 0) (pa_cons (pv 1) (pa_cons (pv 3) (pa_cons (pv 2) pa_nil)))))))))))) (pss_one (ps_set (i := 2) sc_seat_due.nd rfl (Or.inl rfl) (pv 3))) pss_nil)))
      (pss_one (ps_ret (pv 2))))), ?_⟩
  walk_at "st"
  walk_at "rd"
  refine hw.hands T s ?_
  walk_at "rd"
  refine fo_rng2 ?_
  walk_at "rd"
  refine rd_ixL (s.seq hl) rfl ?_
  walk_at "rd"
  cases p with
  | none =>
    obtain rfl := r1
    walk_at "rd"
    refine ifNF rfl ?_
    walk_at "rd"
    refine rd_ixL (s.seq hl) rfl ?_
    walk_at "rd"
    cases q' with
    | none =>
      obtain rfl := r2
      walk_at "rd"
      refine ifNF rfl ?_
      walk_at "rd"
      exact q
    | some q' =>
      obtain ⟨b, rfl, hb⟩ := id r2
      walk_at "rd"
      refine ifNT (by simp) ?_
      walk_at "rd"
      refine ifT rfl ?_
      walk_at "rd"
      exact q
  | some p =>
    obtain ⟨a, rfl, hb⟩ := id r1
    walk_at "rd"
    refine ifNT (by simp) ?_
    walk_at "rd"
    refine ifT rfl ?_
    walk_at "rd"
    refine rd_ixL (s.seq hl) rfl ?_
    walk_at "rd"
    cases q' with
    | none =>
      obtain rfl := r2
      walk_at "rd"
      refine ifNF rfl ?_
      walk_at "rd"
      exact q
    | some q' =>
      obtain ⟨b, rfl, hb2⟩ := id r2
      walk_at "rd"
      refine ifNT (by simp) ?_
      walk_at "rd"
      refine ifF (by simp) ?_
      walk_at "rd"
      refine ⟨v, _, F, f, st, p, q', rfl, s, hw, hL, hp _ rfl, hq _ rfl, ?_⟩
      have e : pickM f (some p) (some q') = some (gtM f p q') := rfl
      rw [e] at q
      walk_at "rd"
      refine ifB (fun c => ?_) fun c => ?_
      · walk_at "rd"
        rw [c] at q
        exact q
      · walk_at "rd"
        rw [c] at q
        exact q
/-! ### holds, members, size, is_in, is_count -/
def sp_holds : Sp := fun vs H Q _ => ∃ m h : Nat, vs = [.int (m : Int), .int (h : Int)] ∧ Q (.bl (m.testBit h)) H
theorem bit_eq (m h : Nat) : decide (Builtin.bitAnd ((m : Int) / 2 ^ (h : Int).toNat) 1 = 1) = m.testBit h := by
  rw [Int.toNat_natCast, PyProof.Rows.bitAnd_m1, Nat.testBit_eq_decide_div_mod_eq]
  have e : (m : Int) / 2 ^ h = ((m / 2 ^ h : Nat) : Int) := by
    rw [Int.natCast_ediv, Int.natCast_pow]
    rfl
  rw [e]
  exact decide_eq_decide.mpr (by omega)
theorem ok_holds (T : Txt K mg) : Ok P w K mg base 1 (He.ga K "holds") sp_holds := by
  refine Ok.of T.fd_holds Txt.b_holds sc_holds (fun vs H Q E h => ?_) fun cdv A outer s H vs Q E hr h => ?_
  · obtain ⟨_, _, rfl, _⟩ := h
    rfl
  obtain ⟨m, h, rfl, q⟩ := h
  refine ⟨_, (pss_one (ps_ret (pe_cmpR (op_eq2 hr) (pe_op op_and (pe_op op_shr (pv 0) (pv 1)) pe_int) pe_int (nomark _)))), ?_⟩
  walk_at "st"
  walk_at "rd"
  refine rd_I (by omega) ?_
  walk_at "rd"
  rw [bit_eq]
  exact q
def membersN : Nat → Nat → Nat → List Int
  | 0, _, _ => []
  | fuel + 1, m, h => if m = 0 then [] else (if m % 2 = 1 then [(h : Int)] else []) ++ membersN fuel (m / 2) (h + 1)
def sp_members (K : PySem.W.Frag) : Sp := fun vs H Q _ => ∃ (F : Hp) (m : Nat), vs = [.int (m : Int)] ∧ Same F H ∧ m ≤ 100 ∧ ∀ v F' H', Xt F H F' H' → ILst K F' v (membersN m m 0) → Q v H'
theorem ok_members (T : Txt K mg) : Ok P w K mg base 1 (He.ga K "members") (sp_members K) := by
  refine Ok.of T.fd_members Txt.b_members sc_members (fun vs H Q E h => ?_) fun cdv A outer s H vs Q E hr h => ?_
  · obtain ⟨_, _, rfl, _⟩ := h
    rfl
  obtain ⟨F, m0, rfl, s, hm, q⟩ := h
  refine ⟨_, (pss_cons (ps_set (i := 1) sc_members.nd rfl (Or.inl rfl) (pe_lst pa_nil))
      (pss_cons (ps_set (i := 2) sc_members.nd rfl (Or.inl rfl) pe_int)
      (pss_cons (ps_while PassesOwn.never (pt_cmpR op_gt (pv 0) pe_int (nomark _)) (pss_cons (ps_if (pt_cmpR (op_eq2 hr) (pe_op op_and (pv 0) pe_int) pe_int (nomark _)) (pss_one (ps_expr (pe_bm PySem.F.plainAttrs_list PySem.F.slot_list_append PySem.F.type_list_append mt_append (pv 1) (pa_cons (pv 2) pa_nil)))) pss_nil)
      (pss_cons (ps_set (i := 0) sc_members.nd rfl (Or.inl rfl) (pe_op op_shr (pv 0) pe_int))
      (pss_one (ps_aug (i := 2) sc_members.nd rfl (Or.inl rfl) pe_int ip_add)))))
      (pss_one (ps_ret (pv 1)))))), ?_⟩
  walk_at "st"
  walk_at "rd"
  refine ⟨szl (by simp), fun p hp => ?_⟩
  walk_at "rd"
  refine ⟨fun k σ H' => ∃ (m h fuel : Nat) (A : List Int), σ = [some (.int (m : Int)), some (.ref p), some (.int (h : Int))] ∧ k = m ∧ m ≤ fuel ∧ Own F H F H' p (A.map .int) ∧ A ++ membersN fuel m h = membersN m0 m0 0 ∧ A.length ≤ h ∧ h + m ≤ m0,
    ⟨m0, m0, 0, m0, [], rfl, rfl, Nat.le_refl _, Own.new s hp, rfl, Nat.le_refl _, by omega⟩, ?_⟩
  rintro k σ H1 ⟨m, h, fuel, A, rfl, rfl, hf, o, hA, hl, hb⟩
  walk_at "rd"
  refine ifD (fun c => ?_) fun c => ?_
  · have hm0 : 0 < k := by omega
    cases fuel with
    | zero => omega
    | succ fuel =>
    have eM : membersN (fuel + 1) k h = (if k % 2 = 1 then [(h : Int)] else []) ++ membersN fuel (k / 2) (h + 1) := by
      rw [membersN, if_neg (by omega)]
    have e2 : (k : Int) / 2 ^ (1 : Int).toNat = ((k / 2 : Nat) : Int) := by
      show (k : Int) / 2 ^ 1 = _
      omega
    refine ⟨fun σ H' => ∃ A : List Int, σ = [some (.int ((k / 2 : Nat) : Int)), some (.ref p), some (.int ((h + 1 : Nat) : Int))] ∧ Own F H F H' p (A.map .int) ∧ A ++ membersN fuel (k / 2) (h + 1) = membersN m0 m0 0 ∧ A.length ≤ h + 1, ?_, ?_⟩
    · rintro σ' H' ⟨A, rfl, o, hA, hl⟩
      exact ⟨k / 2, by omega, k / 2, h + 1, fuel, A, rfl, rfl, by omega, o, hA, hl, by omega⟩
    · walk_at "rd"
      rw [PyProof.Rows.bitAnd_m1]
      refine ifD (fun d => ?_) fun d => ?_
      · walk_at "rd"
        refine ⟨ty_list (SqL.of o.e), ?_⟩
        walk_at "rd"
        refine rd_append o.e (by rw [List.length_map]; omega) ?_
        walk_at "rd"
        refine rd_I (by decide) ?_
        walk_at "rd"
        rw [e2]
        refine ⟨A ++ [(h : Int)], rfl, ?_, ?_, by simp; omega⟩
        · rw [List.map_append]
          exact o.set
        · rw [← hA, eM, if_pos (by omega), List.append_assoc]
      · walk_at "rd"
        refine rd_I (by decide) ?_
        walk_at "rd"
        rw [e2]
        refine ⟨A, rfl, o, ?_, by omega⟩
        rw [← hA, eM, if_neg (by omega), List.nil_append]
  · have hk : k = 0 := by omega
    subst hk
    walk_at "rd"
    have e : membersN fuel 0 h = [] := by cases fuel <;> rfl
    rw [e, List.append_nil] at hA
    subst hA
    exact q _ _ _ o.fin (ilst_of (SqL.of upd_same))
def sp_size : Sp := fun vs H Q _ => ∃ m : Nat, vs = [.int (m : Int)] ∧ m ≤ 100 ∧ ∀ H', Same H H' → Q (.int ((membersN m m 0).length : Nat)) H'
theorem ok_size (T : Txt K mg) : Ok P w K mg base 2 (He.ga K "size") sp_size := by
  refine Ok.of T.fd_size Txt.b_size sc_size (fun vs H Q E h => ?_) fun cdv A outer s H vs Q E hr h => ?_
  · obtain ⟨_, rfl, _⟩ := h
    rfl
  obtain ⟨m, rfl, hm, q⟩ := h
  refine ⟨_, (pss_one (ps_ret (pe_callB call_lenN (by rfl) T.f_len PySem.boot_len (pa_cons (pe_cl (ok_members T) (hr.mono (by decide)) (by rfl) T.g_members (pa_cons (pv 0) pa_nil)) pa_nil)))), ?_⟩
  walk_at "st"
  walk_at "rd"
  refine ⟨H, m, rfl, Same.refl H, hm, fun v F' H' x hv => ?_⟩
  obtain ⟨l, rfl, hl⟩ := ilst_to hv
  walk_at "rd"
  refine rd_lenL (x.sub.seq hl) ?_
  rw [List.length_map]
  exact q _ x.hh
def sp_is_in : Sp := fun vs H Q _ => ∃ a b : Nat, vs = [.int (a : Int), .int (b : Int)] ∧ Q (.bl (decide (a &&& b = a))) H
theorem band_nat (a b : Nat) : Builtin.bitAnd (a : Int) (b : Int) = ((a &&& b : Nat) : Int) := by
  rw [PyProof.Rows.bitAnd_pp (by omega) (by omega), Int.toNat_natCast, Int.toNat_natCast]
theorem ok_is_in (T : Txt K mg) : Ok P w K mg base 1 (He.ga K "is_in") sp_is_in := by
  refine Ok.of T.fd_is_in Txt.b_is_in sc_is_in (fun vs H Q E h => ?_) fun cdv A outer s H vs Q E hr h => ?_
  · obtain ⟨_, _, rfl, _⟩ := h
    rfl
  obtain ⟨a, b, rfl, q⟩ := h
  refine ⟨_, (pss_one (ps_ret (pe_cmpR (op_eq2 hr) (pe_op op_and (pv 0) (pv 1)) (pv 0) (nomark _)))), ?_⟩
  walk_at "st"
  walk_at "rd"
  rw [band_nat, show decide (((a &&& b : Nat) : Int) = (a : Int)) = decide (a &&& b = a) from decide_eq_decide.mpr (by omega)]
  exact q
def sp_is_count : Sp := fun vs H Q _ => ∃ i m : Int, vs = [.int i, .int m] ∧ 0 ≤ i ∧ i ≤ m ∧ Q (.bl true) H
theorem ok_is_count (T : Txt K mg) : Ok P w K mg base 2 (He.ga K "is_count") sp_is_count := by
  refine Ok.of T.fd_is_count Txt.b_is_count sc_is_count (fun vs H Q E h => ?_) fun cdv A outer s H vs Q E hr h => ?_
  · obtain ⟨_, _, rfl, _⟩ := h
    rfl
  obtain ⟨i, m, rfl, h0, h1, q⟩ := h
  refine ⟨_, (pss_one (ps_ret (pe_and (pe_cl (ok_is_whole T) (hr.mono (by decide)) (by rfl) T.g_is_whole (pa_cons (pv 0) pa_nil)) (pe_one (pe_chain op_le op_le pe_int (pv 0) (pv 1)))))), ?_⟩
  walk_at "st"
  walk_at "rd"
  refine ⟨i, rfl, ?_⟩
  walk_at "rd"
  refine ifT h0 ?_
  walk_at "rd"
  rw [decide_eq_true h1]
  exact q
end
end Wp


set_option Elab.async false
set_option linter.all false
set_option maxRecDepth 100000
set_option maxHeartbeats 4000000
namespace Wp
open PySem PySem.Spec PyProof.Rows L2
local macro_rules | `(tactic| walk_at "rd") => `(tactic| repeat (first
  | ((with_reducible apply rd_var); · exact rfl)
  | with_reducible refine rd_c ?_ | with_reducible refine rd_op ?_ | with_reducible refine rd_un ?_ | with_reducible refine rd_test ?_ | with_reducible refine rd_B ?_ | with_reducible refine rd_bl ?_
  | with_reducible refine rd_and ?_ | with_reducible refine rd_or ?_ | with_reducible refine rd_not ?_ | with_reducible refine rd_andV ?_ | with_reducible refine rd_orV ?_ | with_reducible refine rd_notV ?_ | with_reducible refine rd_ifE ?_
  | with_reducible refine rd_seq ?_ | with_reducible refine rd_asg ?_ | ((with_reducible apply rd_name); · (simp only [List.set_cons_zero, List.set_cons_succ]; exact rfl)) | with_reducible refine rd_ret ?_ | with_reducible refine rd_drop ?_ | with_reducible refine rd_if ?_ | with_reducible refine rd_next ?_ | with_reducible refine rd_break ?_ | with_reducible refine rd_cont ?_
  | with_reducible refine rd_cl ?_ | with_reducible refine rd_cb ?_ | with_reducible refine rd_mk ?_ | with_reducible refine rd_cons ?_ | with_reducible refine rd_nil ?_ | with_reducible refine rd_tup ?_ | with_reducible refine rd_lst ?_ | with_reducible refine rd_at ?_ | with_reducible refine rd_gAt ?_
  | with_reducible refine rd_isN ?_ | with_reducible refine rd_notN ?_ | with_reducible refine rd_abs ?_ | with_reducible refine rd_max ?_ | with_reducible refine rd_int ?_ | with_reducible refine rd_intB ?_ | with_reducible refine rd_consG ?_ | with_reducible refine rd_nilG ?_ | with_reducible refine rd_ipI ?_ | ((with_reducible apply rd_aug); · exact rfl)
  | with_reducible refine rd_par ?_ | with_reducible refine rd_par3 ?_ | ((with_reducible apply rd_parQ); · (simp only [List.set_cons_zero, List.set_cons_succ]; exact rfl)) | ((with_reducible apply rd_par3Q); · (simp only [List.set_cons_zero, List.set_cons_succ]; exact rfl))
  | with_reducible refine rd_yes ?_ | with_reducible refine rd_chain ?_ | with_reducible refine rd_bm ?_ | with_reducible refine rd_bm0 ?_ | with_reducible refine rd_me ?_ | with_reducible refine rd_augS ?_ | with_reducible refine rd_subG ?_ | with_reducible refine rd_forR ?_ | with_reducible refine rd_sl ?_ | with_reducible refine rd_part ?_ | with_reducible refine rd_partQ ?_ | with_reducible refine rd_noPart ?_ | with_reducible refine rd_lstRg ?_ | with_reducible refine rd_forL ?_ | with_reducible refine rd_forE ?_ | with_reducible refine rd_forZ ?_ | with_reducible refine rd_lcL ?_ | with_reducible refine rd_lcR ?_ | with_reducible refine rd_lcE ?_ | with_reducible refine rd_lcZ ?_ | with_reducible refine rd_while ?_
  | with_reducible refine iteT ?_ | with_reducible refine iteF ?_ | with_reducible refine ifNotT ?_ | with_reducible refine ifNotF ?_ | with_reducible refine rd_I0 ?_ | with_reducible refine rd_U ?_ | with_reducible refine rd_add ?_ | with_reducible refine rd_eqI ?_ | with_reducible refine rd_neI ?_ | with_reducible refine rd_eqB ?_))
local macro_rules | `(tactic| walk_at "st") => `(tactic| (intro σ hσ; simp only [L2.start, List.map_cons, List.map_nil, List.length_cons, List.length_nil, List.reduceReplicate, List.replicate_zero, List.append_nil, Nat.reduceAdd, Nat.reduceSub, List.cons_append, List.nil_append] at hσ; subst hσ; try dsimp only [cxOf, Cx.nox, Cx.wish]))
local macro_rules | `(tactic| walk_at "wp") => `(tactic| (simp only [List.map_cons, List.map_nil, wipe, List.set_cons_zero, List.set_cons_succ]))
section
variable {P : Program} {w : World} {K : PySem.W.Frag} {mg : Str → Option Value} {base : Heap}
/-! ### sheets -/
abbrev Row := List Int × Int
def RowR (K : PySem.W.Frag) : Hp → V → Row → Prop := Tup2 K (TupI K) IntR
instance : Mono (RowR K) := inferInstanceAs (Mono (Tup2 K (TupI K) IntR))
def num (s : List Int) (rows : List Row) : Int := ((rows.filter fun r => decide (r.1 = s)).map (·.2)).sum
def vtOf (rows : List Row) : Vt := ⟨num [1] rows, num [2] rows, num [] rows⟩
def totR (rows : List Row) : Int := (rows.map (·.2)).sum
structure RowsOk (rows : List Row) : Prop where
  s : ∀ r ∈ rows, r.1 = [1] ∨ r.1 = [2] ∨ r.1 = []
  n : ∀ r ∈ rows, 0 ≤ r.2
  l : rows.length ≤ 100
  t : totR rows ≤ 1000
def SheetR (K : PySem.W.Frag) : Hp → V → Vt → Prop := fun F v n => ∃ rows, LstR K (RowR K) F v rows ∧ RowsOk rows ∧ vtOf rows = n
instance : Mono (SheetR K) := ⟨fun s h => by
  obtain ⟨rows, h1, h2, h3⟩ := h
  exact ⟨rows, Mono.mono s h1, h2, h3⟩⟩
theorem num_cons (s : List Int) (r : Row) (rows : List Row) : num s (r :: rows) = (if r.1 = s then r.2 else 0) + num s rows := by
  unfold num
  rw [List.filter_cons]
  by_cases h : r.1 = s
  · rw [if_pos (decide_eq_true h), if_pos h, List.map_cons, List.sum_cons]
  · rw [if_neg (by simp [h]), if_neg h, Int.zero_add]
theorem totR_cons (r : Row) (rows : List Row) : totR (r :: rows) = r.2 + totR rows := by
  unfold totR
  rw [List.map_cons, List.sum_cons]
theorem filtT {α : Type} (xs : List α) : (xs.filter fun _ => true) = xs := List.filter_eq_self.mpr fun _ _ => rfl
theorem num_one (s : List Int) (r : Row) : num s [r] = if r.1 = s then r.2 else 0 := by
  rw [num_cons]
  exact Int.add_zero _
theorem num_append (s : List Int) (a b : List Row) : num s (a ++ b) = num s a + num s b := by
  induction a with
  | nil => simp [num]
  | cons r a ih => rw [List.cons_append, num_cons, num_cons, ih]; omega
theorem totR_append (a b : List Row) : totR (a ++ b) = totR a + totR b := by
  induction a with
  | nil => simp [totR]
  | cons r a ih => rw [List.cons_append, totR_cons, totR_cons, ih]; omega
theorem tot_split : ∀ {rows : List Row}, (∀ r ∈ rows, r.1 = [1] ∨ r.1 = [2] ∨ r.1 = []) → totR rows = num [1] rows + num [2] rows + num [] rows
  | [], _ => rfl
  | r :: rows, h => by
    have ih := tot_split (rows := rows) fun x hx => h x (List.mem_cons_of_mem _ hx)
    rw [totR_cons, num_cons, num_cons, num_cons, ih]
    rcases h r List.mem_cons_self with e | e | e <;> simp [e] <;> omega
theorem num_nn : ∀ {rows : List Row} (s : List Int), (∀ r ∈ rows, 0 ≤ r.2) → 0 ≤ num s rows
  | [], _, _ => Int.le_refl 0
  | r :: rows, s, h => by
    have ih := num_nn (rows := rows) s fun x hx => h x (List.mem_cons_of_mem _ hx)
    have h0 := h r List.mem_cons_self
    rw [num_cons]
    split <;> omega
theorem RowsOk.vt {rows : List Row} (h : RowsOk rows) : VtOk (vtOf rows) := ⟨num_nn _ h.n, num_nn _ h.n, num_nn _ h.n, by
  have := tot_split h.s
  have := h.t
  show num [1] rows + num [2] rows + num [] rows ≤ 1000
  omega⟩
theorem SheetR.ok {F : Hp} {v : V} {n : Vt} (h : SheetR K F v n) : VtOk n := by
  obtain ⟨rows, _, h, rfl⟩ := h
  exact h.vt
/-! ### vote_of -/
theorem datI : Dat K (TupI K) (fun xs => .tuple (xs.map .int)) 1 where
  dp := fun {F v x} h => by
    obtain ⟨a, rfl, hs⟩ := h
    exact .tup hs (dpAll_of (K := K) dat_int (int_all2 (F := F)))
  eqv := fun x y => by
    rw [PyData.eqv, eqvAll_map eqv_int]
  lay := fun xs => by
    rw [PyData.canLay0]
    exact canLay_map (dat_int (K := K)).lay xs
  dep := fun xs => by
    rw [PyData.depth]
    exact Nat.succ_le_succ (depth_map (dat_int (K := K)).dep xs)
def sVote (s : List Int) : V := if s = [1] then .int 0 else if s = [2] then .int 1 else .non
def sp_vote_of (K : PySem.W.Frag) : Sp := fun vs H Q _ => ∃ (F : Hp) (v : V) (s : List Int), vs = [v] ∧ Same F H ∧ TupI K F v s ∧ (s = [1] ∨ s = [2] ∨ s = []) ∧ ∀ H', Same H H' → Q (sVote s) H'
theorem ok_vote_of (T : Txt K mg) : Ok P w K mg base 2 (He.ga K "vote_of") (sp_vote_of K) := by
  refine Ok.of T.fd_vote_of Txt.b_vote_of sc_vote_of (fun vs H Q E h => ?_) fun cdv A outer s H vs Q E hr h => ?_
  · obtain ⟨_, _, _, rfl, _⟩ := h
    rfl
  obtain ⟨F, v, sl, rfl, s, hv, hs, q⟩ := h
  refine ⟨_, (pss_cons (ps_if (pt_cmpR (op_eq2 hr) (pv 0) (pe_tup pa_nil) (nomark _)) (pss_one (ps_ret pe_non)) pss_nil)
      (pss_cons (ps_set (i := 1) sc_vote_of.nd rfl (Or.inl rfl) (pe_cl (ok_members T) (hr.mono (by decide)) (by rfl) T.g_members (pa_cons (pe_ix ix_seq (pv 0) pe_int (fun _ _ => rfl)) pa_nil)))
      (pss_cons (ps_if (pt_cmpR op_gt (pe_callB call_lenN (by rfl) T.f_len PySem.boot_len (pa_cons (pv 1) pa_nil)) pe_int (nomark _)) (pss_one (ps_ret pe_non)) pss_nil)
      (pss_one (ps_ret (pe_ix ix_seq (pv 1) pe_int (fun _ _ => rfl))))))), ?_⟩
  walk_at "st"
  walk_at "rd"
  refine ⟨szl (by simp), fun p hp => ?_⟩
  have s1 : Same H (upd H p (.tup [])) := same_new hp
  walk_at "rd"
  refine rd_eqD datI (by decide) (sm_mo (s.trans s1) hv) (y := []) ⟨p, rfl, SqT.of upd_same⟩ ?_
  walk_at "rd"
  refine ifD (fun c => ?_) fun c => ?_
  · walk_at "rd"
    subst c
    exact q _ s1
  · have hm : ∃ m : Nat, sl = [(m : Int)] ∧ membersN m m 0 = [(m : Int) - 1] ∧ m ≤ 100 ∧ sVote sl = .int ((m : Int) - 1) := by
      rcases hs with rfl | rfl | rfl
      · exact ⟨1, rfl, by decide, by decide, rfl⟩
      · exact ⟨2, rfl, by decide, by decide, rfl⟩
      · exact absurd rfl c
    obtain ⟨m, rfl, hmem, hm, hvote⟩ := hm
    obtain ⟨a, rfl, ha⟩ := hv
    walk_at "rd"
    refine rd_ixT (sm_t (s.trans s1) ha) rfl ?_
    walk_at "rd"
    refine ⟨F, m, rfl, s.trans s1, hm, fun v' F' H' x hv' => ?_⟩
    obtain ⟨l, rfl, hl⟩ := ilst_to hv'
    rw [hmem] at hl
    walk_at "rd"
    refine rd_lenL (x.sub.seq hl) ?_
    walk_at "rd"
    refine ifF (by simp) ?_
    walk_at "rd"
    refine rd_ixL (x.sub.seq hl) rfl ?_
    rw [hvote] at q
    exact q _ (s1.trans x.hh)
/-! ### ballots_in -/
def sp_ballots_in (K : PySem.W.Frag) : Sp := fun vs H Q _ => ∃ (F : Hp) (v : V) (n : Vt), vs = [v] ∧ Same F H ∧ SheetR K F v n ∧ ∀ H', Same H H' → Q (.int n.sum) H'
theorem ok_ballots_in (T : Txt K mg) : Ok P w K mg base 1 (He.ga K "ballots_in") (sp_ballots_in K) := by
  refine Ok.of T.fd_ballots_in Txt.b_ballots_in sc_ballots_in (fun vs H Q E h => ?_) fun cdv A outer s H vs Q E hr h => ?_
  · obtain ⟨_, _, _, rfl, _⟩ := h
    rfl
  obtain ⟨F, v, n, rfl, s, ⟨rows, hv, hrow, rfl⟩, q⟩ := h
  refine ⟨_, (pss_one (ps_ret (pe_callB (cr_sum rfl) (by rfl) T.f_sum (by decide +kernel) (pa_cons (pe_lc rfl sc_ballots_in.nd (pi_list (pv 0)) (blkOk_by (own := [("slip", 1), ("number", 2)]) (N := ["sheet", "slip", "number"]) (sc := (defScope s_ballots_in)) (by decide +kernel)) (fun _ _ _ _ _ => (pg_tupK (K := K) (n := 2) rfl rfl (pgs_cons (pg_name (i := 1) sc_ballots_in.nd rfl (Or.inl rfl)) (pgs_cons (pg_name (i := 2) sc_ballots_in.nd rfl (Or.inl rfl)) pgs_nil)))) (fun _ _ _ _ _ => pts_nil) (fun _ _ _ _ _ => (pv 2))) pa_nil)))), ?_⟩
  walk_at "st"
  walk_at "rd"
  refine lc_list IntR (fun _ => true) (fun r : Row => r.2) hv s (Nat.le_trans hrow.l (by decide)) (fun i y F1 H2 v hy x hv Z Z0 hZ _ => ?_) fun D F1 H2 x hD => ?_
  · obtain ⟨a, v1, v2, rfl, ht, h1, h2⟩ := hv
    walk_at "wp"
    refine rd_tupG (sm_t x.sub ht) rfl ?_
    walk_at "rd"
    refine ⟨rfl, ?_⟩
    walk_at "rd"
    exact hZ rfl _ _ _ (Xt.refl x.sub) h2
  · obtain ⟨l, e, hl⟩ := ilst_to hD
    cases e
    walk_at "rd"
    refine rd_sum (x.sub.seq hl) ?_
    have e : ((rows.filter fun _ => true).map fun r : Row => r.2).sum = (vtOf rows).sum := by
      rw [filtT]
      exact tot_split hrow.s
    rw [e]
    exact q _ x.hh
/-! ### votes_of -/
def sp_votes_of (K : PySem.W.Frag) : Sp := fun vs H Q _ => ∃ (F : Hp) (v : V) (n : Vt), vs = [v, .int 2] ∧ Same F H ∧ SheetR K F v n ∧ ∀ u F' H', Xt F H F' H' → ILst K F' u n.l → Q u H'
theorem ok_votes_of (T : Txt K mg) : Ok P w K mg base 3 (He.ga K "votes_of") (sp_votes_of K) := by
  refine Ok.of T.fd_votes_of Txt.b_votes_of sc_votes_of (fun vs H Q E h => ?_) fun cdv A outer s H vs Q E hr h => ?_
  · obtain ⟨_, _, _, rfl, _⟩ := h
    rfl
  obtain ⟨F, v, n, rfl, s, ⟨rows, hv, hrow, rfl⟩, q⟩ := h
  refine ⟨_, (pss_cons (ps_set (i := 2) sc_votes_of.nd rfl (Or.inl rfl) (pe_op op_mul2 (pe_lst (pa_cons pe_int pa_nil)) (pe_op op_add2 (pv 1) pe_int)))
      (pss_cons (ps_for PassesOwn.never rfl (pi_list (pv 0)) (pg_tup rfl (pgs_cons (pg_name (i := 3) sc_votes_of.nd rfl (Or.inl rfl)) (pgs_cons (pg_name (i := 4) sc_votes_of.nd rfl (Or.inl rfl)) pgs_nil))) (pss_cons (ps_set (i := 5) sc_votes_of.nd rfl (Or.inl rfl) (pe_cl (ok_vote_of T) (hr.mono (by decide)) (by rfl) T.g_vote_of (pa_cons (pv 3) pa_nil)))
      (pss_cons (ps_if (pt_cmpR op_isNN (pv 5) pe_non (nomark _)) (pss_one (ps_set (i := 5) sc_votes_of.nd rfl (Or.inl rfl) (pv 1))) pss_nil)
      (pss_one (ps_asg (pe_op op_add2 (pe_ix ix_seq (pv 2) (pv 5) (fun _ _ => rfl)) (pv 4)) (pg_sub (pv 2) (pv 5) set_list))))))
      (pss_one (ps_ret (pv 2))))), ?_⟩
  walk_at "st"
  walk_at "rd"
  refine ⟨szl (by simp), fun p0 hp0 => ?_⟩
  walk_at "rd"
  refine rd_rep upd_same (by decide) (by decide) (by decide) fun p hp => ?_
  have o : Own F H F _ p [.int 0, .int 0, .int 0] := Own.mk' ((Xt.refl s).newH hp0) hp
  walk_at "rd"
  refine fo_list (R := RowR K) (fun i σ F1 H1 => ∃ y3 y4 y5, σ = [some v, some (.int 2), some (.ref p), y3, y4, y5] ∧ Own F H F1 H1 p ((vtOf (rows.take i)).l.map .int)) hv ⟨_, _, _, rfl, o⟩ (fun i σ F1 H1 ⟨_, _, _, _, o⟩ => ⟨o.x.ff, o.x.sub⟩) ?_ ?_
  · rintro i y u σ F1 H1 hy ⟨a, v1, v2, rfl, ht, h1, h2⟩ ⟨y3, y4, y5, rfl, o⟩
    obtain rfl := h2
    have hr1 := hrow.s y (List.mem_of_getElem? hy)
    refine rd_tupG (sm_t o.x.sub ht) rfl ?_
    walk_at "rd"
    refine ⟨F1, v1, y.1, rfl, o.x.sub, h1, hr1, fun H2 s2 => ?_⟩
    have o2 := o.step (Xt.of o.x.sub s2)
    walk_at "rd"
    have e : vtOf (rows.take (i + 1)) = ⟨num [1] (rows.take i) + (if y.1 = [1] then y.2 else 0), num [2] (rows.take i) + (if y.1 = [2] then y.2 else 0), num [] (rows.take i) + (if y.1 = [] then y.2 else 0)⟩ := by
      rw [List.take_add_one, hy]
      unfold vtOf
      rw [num_append, num_append, num_append]
      show (⟨_ + num [1] [y], _ + num [2] [y], _ + num [] [y]⟩ : Vt) = _
      rw [num_one, num_one, num_one]
    obtain ⟨ys, yn⟩ := y
    rcases hr1 with h | h | h <;> (cases h)
    · refine ifF (by simp [sVote]) ?_
      walk_at "rd"
      refine rd_ixL (SqL.of o2.e) rfl ?_
      walk_at "rd"
      refine rd_setL o2.e rfl ?_
      refine ⟨F1, _, _, _, rfl, ?_⟩
      rw [e]
      simp
      exact o2.set
    · refine ifF (by simp [sVote]) ?_
      walk_at "rd"
      refine rd_ixL (SqL.of o2.e) rfl ?_
      walk_at "rd"
      refine rd_setL o2.e rfl ?_
      refine ⟨F1, _, _, _, rfl, ?_⟩
      rw [e]
      simp
      exact o2.set
    · refine ifT rfl ?_
      walk_at "rd"
      refine rd_ixL (SqL.of o2.e) rfl ?_
      walk_at "rd"
      refine rd_setL o2.e rfl ?_
      refine ⟨F1, _, _, _, rfl, ?_⟩
      rw [e]
      simp
      exact o2.set
  · rintro σ F1 H1 ⟨y3, y4, y5, rfl, o⟩
    walk_at "rd"
    rw [List.take_length] at o
    exact q _ _ _ o.fin (ilst_of (SqL.of upd_same))
end
end Wp


set_option Elab.async false
set_option linter.all false
set_option maxRecDepth 100000
set_option maxHeartbeats 4000000
namespace Wp
open PySem PySem.Spec PyProof.Rows L2
local macro_rules | `(tactic| walk_at "rd") => `(tactic| repeat (first
  | ((with_reducible apply rd_var); · exact rfl)
  | with_reducible refine rd_c ?_ | with_reducible refine rd_op ?_ | with_reducible refine rd_un ?_ | with_reducible refine rd_test ?_ | with_reducible refine rd_B ?_ | with_reducible refine rd_bl ?_
  | with_reducible refine rd_and ?_ | with_reducible refine rd_or ?_ | with_reducible refine rd_not ?_ | with_reducible refine rd_andV ?_ | with_reducible refine rd_orV ?_ | with_reducible refine rd_notV ?_ | with_reducible refine rd_ifE ?_
  | with_reducible refine rd_seq ?_ | with_reducible refine rd_asg ?_ | ((with_reducible apply rd_name); · (simp only [List.set_cons_zero, List.set_cons_succ]; exact rfl)) | with_reducible refine rd_ret ?_ | with_reducible refine rd_drop ?_ | with_reducible refine rd_if ?_ | with_reducible refine rd_next ?_ | with_reducible refine rd_break ?_ | with_reducible refine rd_cont ?_
  | with_reducible refine rd_cl ?_ | with_reducible refine rd_cb ?_ | with_reducible refine rd_mk ?_ | with_reducible refine rd_cons ?_ | with_reducible refine rd_nil ?_ | with_reducible refine rd_tup ?_ | with_reducible refine rd_lst ?_ | with_reducible refine rd_at ?_ | with_reducible refine rd_gAt ?_
  | with_reducible refine rd_isN ?_ | with_reducible refine rd_notN ?_ | with_reducible refine rd_abs ?_ | with_reducible refine rd_max ?_ | with_reducible refine rd_int ?_ | with_reducible refine rd_intB ?_ | with_reducible refine rd_consG ?_ | with_reducible refine rd_nilG ?_ | with_reducible refine rd_ipI ?_ | ((with_reducible apply rd_aug); · exact rfl)
  | with_reducible refine rd_par ?_ | with_reducible refine rd_par3 ?_ | ((with_reducible apply rd_parQ); · (simp only [List.set_cons_zero, List.set_cons_succ]; exact rfl)) | ((with_reducible apply rd_par3Q); · (simp only [List.set_cons_zero, List.set_cons_succ]; exact rfl))
  | with_reducible refine rd_yes ?_ | with_reducible refine rd_chain ?_ | with_reducible refine rd_bm ?_ | with_reducible refine rd_bm0 ?_ | with_reducible refine rd_me ?_ | with_reducible refine rd_augS ?_ | with_reducible refine rd_subG ?_ | with_reducible refine rd_forR ?_ | with_reducible refine rd_sl ?_ | with_reducible refine rd_part ?_ | with_reducible refine rd_partQ ?_ | with_reducible refine rd_noPart ?_ | with_reducible refine rd_lstRg ?_ | with_reducible refine rd_forL ?_ | with_reducible refine rd_forE ?_ | with_reducible refine rd_forZ ?_ | with_reducible refine rd_lcL ?_ | with_reducible refine rd_lcR ?_ | with_reducible refine rd_lcE ?_ | with_reducible refine rd_lcZ ?_ | with_reducible refine rd_while ?_
  | with_reducible refine iteT ?_ | with_reducible refine iteF ?_ | with_reducible refine ifNotT ?_ | with_reducible refine ifNotF ?_ | with_reducible refine rd_I0 ?_ | with_reducible refine rd_U ?_ | with_reducible refine rd_add ?_ | with_reducible refine rd_eqI ?_ | with_reducible refine rd_neI ?_ | with_reducible refine rd_eqB ?_))
local macro_rules | `(tactic| walk_at "st") => `(tactic| (intro σ hσ; simp only [L2.start, List.map_cons, List.map_nil, List.length_cons, List.length_nil, List.reduceReplicate, List.replicate_zero, List.append_nil, Nat.reduceAdd, Nat.reduceSub, List.cons_append, List.nil_append] at hσ; subst hσ; try dsimp only [cxOf, Cx.nox, Cx.wish]))
local macro_rules | `(tactic| walk_at "wp") => `(tactic| (simp only [List.map_cons, List.map_nil, wipe, List.set_cons_zero, List.set_cons_succ]))
section
variable {P : Program} {w : World} {K : PySem.W.Frag} {mg : Str → Option Value} {base : Heap}
/-! ### votes needed -/
def HurR (K : PySem.W.Frag) (F : Hp) (v : V) (ht hb : Int) : Prop := (∃ c, IsLists K F v c ∧ c.ht = ht ∧ c.hb = hb) ∨ (∃ c, IsLand K F v c ∧ c.ht = ht ∧ c.hb = hb)
theorem HurR.hurdle {F H : Hp} {v : V} {Q : VK} {ht hb : Int} (T : Txt K mg) (h : HurR K F v ht hb) (s : Same F H) (q : ∀ l, SqT K F l [.int ht, .int hb] → Q (.ref l) H) : rAt K "hurdle" v H Q := by
  rcases h with ⟨c, h, rfl, rfl⟩ | ⟨c, h, rfl, rfl⟩
  · exact h.hurdle T s q
  · exact h.hurdle T s q
theorem HurR.ok {F : Hp} {v : V} {ht hb : Int} (h : HurR K F v ht hb) : HurOk ht hb := by
  rcases h with ⟨c, ⟨_, _, _, _, _, _, _, _, h⟩, rfl, rfl⟩ | ⟨c, ⟨_, _, _, _, _, _, _, _, _, _, h⟩, rfl, rfl⟩
  · exact h.h
  · exact h.h
def sp_least_votes (K : PySem.W.Frag) : Sp := fun vs H Q _ => ∃ (F : Hp) (v : V) (ht hb b : Int), vs = [v, .int b] ∧ Same F H ∧ HurR K F v ht hb ∧ 0 ≤ b ∧ b ≤ 1000 ∧ ∀ H', Same H H' → Q (.int (want ht hb b)) H'
theorem ok_Lists_least_votes (T : Txt K mg) : Ok P w K mg base 2 (He.ma K (He.ga K "Lists") "least_votes") (sp_least_votes K) := by
  refine Ok.of T.fd_Lists_least_votes Txt.b_Lists_least_votes sc_Lists_least_votes (fun vs H Q E h => ?_) fun cdv A outer s H vs Q E hr h => ?_
  · obtain ⟨_, _, _, _, _, rfl, _⟩ := h
    rfl
  obtain ⟨F, v, ht, hb, b, rfl, s, hh, b0, b1, q⟩ := h
  have ok := hh.ok
  refine ⟨_, (pss_one (ps_ret (pe_callB (call_maxN rfl) (by rfl) T.f_max (by decide +kernel) (pa_cons pe_int (pa_cons (pe_cl (ok_up T) (hr.mono (by decide)) (by rfl) T.g_up (pa_cons (pe_op op_mul2 (pe_ix ix_seq (pe_at (pv 0)) pe_int (fun _ _ => rfl)) (pv 1)) (pa_cons (pe_ix ix_seq (pe_at (pv 0)) pe_int (fun _ _ => rfl)) pa_nil))) pa_nil))))), ?_⟩
  walk_at "st"
  walk_at "rd"
  refine hh.hurdle T s fun l hl => ?_
  walk_at "rd"
  refine rd_ixT (sm_t s hl) rfl ?_
  walk_at "rd"
  refine rd_mul (n := b) (.inr ⟨by omega, by omega⟩) ?_
  walk_at "rd"
  refine hh.hurdle T s fun l hl => ?_
  walk_at "rd"
  refine rd_ixT (sm_t s hl) rfl ?_
  walk_at "rd"
  refine ⟨_, _, rfl, ⟨by have := ok.b1; omega, by have := ok.b5; omega⟩, fun H' s' => ?_⟩
  walk_at "rd"
  exact q _ s'
theorem ok_Land_least_votes (T : Txt K mg) : Ok P w K mg base 2 (He.ma K (He.ga K "Land") "least_votes") (sp_least_votes K) := by
  refine Ok.of T.fd_Land_least_votes Txt.b_Land_least_votes sc_Land_least_votes (fun vs H Q E h => ?_) fun cdv A outer s H vs Q E hr h => ?_
  · obtain ⟨_, _, _, _, _, rfl, _⟩ := h
    rfl
  obtain ⟨F, v, ht, hb, b, rfl, s, hh, b0, b1, q⟩ := h
  have ok := hh.ok
  refine ⟨_, (pss_one (ps_ret (pe_callB (call_maxN rfl) (by rfl) T.f_max (by decide +kernel) (pa_cons pe_int (pa_cons (pe_cl (ok_up T) (hr.mono (by decide)) (by rfl) T.g_up (pa_cons (pe_op op_mul2 (pe_ix ix_seq (pe_at (pv 0)) pe_int (fun _ _ => rfl)) (pv 1)) (pa_cons (pe_ix ix_seq (pe_at (pv 0)) pe_int (fun _ _ => rfl)) pa_nil))) pa_nil))))), ?_⟩
  walk_at "st"
  walk_at "rd"
  refine hh.hurdle T s fun l hl => ?_
  walk_at "rd"
  refine rd_ixT (sm_t s hl) rfl ?_
  walk_at "rd"
  refine rd_mul (n := b) (.inr ⟨by omega, by omega⟩) ?_
  walk_at "rd"
  refine hh.hurdle T s fun l hl => ?_
  walk_at "rd"
  refine rd_ixT (sm_t s hl) rfl ?_
  walk_at "rd"
  refine ⟨_, _, rfl, ⟨by have := ok.b1; omega, by have := ok.b5; omega⟩, fun H' s' => ?_⟩
  walk_at "rd"
  exact q _ s'
/-! ### rounds -/
def RoundR (K : PySem.W.Frag) : Hp → V → Bool → Prop := fun F v b => ∃ a m, v = .ref a ∧ SqT K F a [m, .int (hI b)]
instance : Mono (RoundR K) := ⟨fun s h => by
  obtain ⟨a, m, e, h⟩ := h
  exact ⟨a, m, e, sm_t s h⟩⟩
def PaperR (K : PySem.W.Frag) : Hp → V → List Bool → Prop := fun F v bs => ∃ a x y rd, v = .ref a ∧ SqT K F a [x, y, rd] ∧ LstR K (RoundR K) F rd bs
instance : Mono (PaperR K) := ⟨fun s h => by
  obtain ⟨a, x, y, rd, e, h, h2⟩ := h
  exact ⟨a, x, y, rd, e, sm_t s h, Mono.mono s h2⟩⟩
theorem pb_mk {st w v h : Int} (hst : st = 1 ∨ st = 2) (h0 : 0 ≤ h) (h1 : h ≤ 1000) : OB (mk st w v h) := fun p e => by
  unfold mk at e
  split at e
  · cases e
  · cases e
    have hd := st_bd hst h0 h1
    have := Int.ediv_le_self (a := 1 + st * h) ((Int.gcd v (1 + st * h) : Nat) : Int) (by omega)
    have := Int.ediv_nonneg (a := 1 + st * h) (b := ((Int.gcd v (1 + st * h) : Nat) : Int)) (by omega) (by omega)
    exact ⟨by show _ < (1 + st * h) / _; omega, by show (1 + st * h) / _ < _; omega⟩
theorem hI_bd (b : Bool) : hI b = 0 ∨ hI b = 1 := by cases b <;> simp [hI]
theorem runM_len (f : Bool) (st w v0 v1 : Int) : ∀ (n : Nat) (h0 h1 : Int), (runM f st w v0 v1 n h0 h1).length ≤ n
  | 0, _, _ => Nat.le_refl _
  | n + 1, h0, h1 => by
    unfold runM
    split
    · exact Nat.zero_le _
    · rw [List.length_cons]
      exact Nat.succ_le_succ (runM_len f st w v0 v1 n _ _)
theorem Own.other {F H F1 H1 : Hp} {l l2 : Addr} {acc a2 : List V} {o : HO} (o2 : Own F H F1 H1 l2 a2) (o1 : Own F H F1 H1 l acc) (hn : l2 ≠ l) : Own F H F1 (upd H1 l o) l2 a2 := ⟨o2.x.put o1.h o1.f, o2.f, o2.h, by rw [upd_ne hn]; exact o2.e⟩
theorem Own.new2 {F H F1 H1 : Hp} {l l2 : Addr} {acc a2 : List V} (o : Own F H F1 H1 l acc) (hp : H1 l2 = none) : Own F H F1 (upd H1 l2 (.lst a2)) l acc ∧ Own F H F1 (upd H1 l2 (.lst a2)) l2 a2 ∧ l ≠ l2 := by
  have hn : l ≠ l2 := fun e => by
    rw [← e, o.e] at hp
    cases hp
  exact ⟨⟨o.x.newH hp, o.f, o.h, by rw [upd_ne hn]; exact o.e⟩, Own.mk' o.x hp, hn⟩
def sp_counted (K : PySem.W.Frag) : Sp := fun vs H Q _ => ∃ (F : Hp) (v sh : V) (c : Cfg) (n : Vt), vs = [v, sh] ∧ Same F H ∧ IsLists K F v c ∧ SheetR K F sh n ∧
  ∀ u F' H', Xt F H F' H' → PaperR K F' u (runM c.f c.st (want c.ht c.hb n.sum) n.a n.b c.S 0 0) → Q u H'
theorem ok_Lists_counted (T : Txt K mg) : Ok P w K mg base 5 (He.ma K (He.ga K "Lists") "counted") (sp_counted K) := by
  refine Ok.of T.fd_Lists_counted Txt.b_Lists_counted sc_Lists_counted (fun vs H Q E h => ?_) fun cdv A outer s H vs Q E hr h => ?_
  · obtain ⟨_, _, _, _, _, rfl, _⟩ := h
    rfl
  obtain ⟨F, v, sh, c, n, rfl, s, hc, hs, q⟩ := h
  have cok : CfgOk c := by
    obtain ⟨_, _, _, _, _, _, _, _, h⟩ := hc
    exact h
  have hw : WayR K F v c.f c.st := .inl ⟨c, hc, rfl, rfl⟩
  have hh : HurR K F v c.ht c.hb := .inl ⟨c, hc, rfl, rfl⟩
  refine ⟨_, (pss_cons (ps_set (i := 2) sc_Lists_counted.nd rfl (Or.inl rfl) (pe_cl (ok_votes_of T) (hr.mono (by decide)) (by rfl) T.g_votes_of (pa_cons (pv 1) (pa_cons (pe_at (pv 0)) pa_nil))))
      (pss_cons (ps_set (i := 3) sc_Lists_counted.nd rfl (Or.inl rfl) (pe_me (k := 2) (hr.mono (by decide)) (pv 0) (pa_cons (pe_cl (ok_ballots_in T) (hr.mono (by decide)) (by rfl) T.g_ballots_in (pa_cons (pv 1) pa_nil)) pa_nil)))
      (pss_cons (ps_set (i := 4) sc_Lists_counted.nd rfl (Or.inl rfl) (pe_op op_mul2 (pe_lst (pa_cons pe_int pa_nil)) (pe_at (pv 0))))
      (pss_cons (ps_set (i := 5) sc_Lists_counted.nd rfl (Or.inl rfl) (pe_lst pa_nil))
      (pss_cons (ps_while PassesOwn.never (pt_cmpR op_lt (pe_callB call_lenN (by rfl) T.f_len PySem.boot_len (pa_cons (pv 5) pa_nil)) (pe_at (pv 0)) (nomark _)) (pss_cons (ps_set (i := 6) sc_Lists_counted.nd rfl (Or.inl rfl) (pe_cl (ok_marks_of T) (hr.mono (by decide)) (by rfl) T.g_marks_of (pa_cons (pv 0) (pa_cons (pv 2) (pa_cons (pv 3) (pa_cons (pv 4) pa_nil))))))
      (pss_cons (ps_set (i := 7) sc_Lists_counted.nd rfl (Or.inl rfl) (pe_cl (ok_seat_due T) (hr.mono (by decide)) (by rfl) T.g_seat_due (pa_cons (pv 0) (pa_cons (pv 6) pa_nil))))
      (pss_cons (ps_if (pt_cmpR op_isNN (pv 7) pe_non (nomark _)) (pss_one ps_break) pss_nil)
      (pss_cons (ps_expr (pe_bm PySem.F.plainAttrs_list PySem.F.slot_list_append PySem.F.type_list_append mt_append (pv 5) (pa_cons (pe_tup (pa_cons (pv 6) (pa_cons (pv 7) pa_nil))) pa_nil)))
      (pss_one (ps_asg (pe_op op_add2 (pe_ix ix_seq (pv 4) (pv 7) (fun _ _ => rfl)) pe_int) (pg_sub (pv 4) (pv 7) set_list))))))))
      (pss_one (ps_ret (pe_tup (pa_cons (pv 2) (pa_cons (pv 3) (pa_cons (pv 5) pa_nil))))))))))), ?_⟩
  walk_at "st"
  walk_at "rd"
  refine hc.hands T s ?_
  walk_at "rd"
  refine ⟨F, sh, n, rfl, s, hs, fun vo F1 H1 x1 hvo => ?_⟩
  walk_at "rd"
  refine ⟨_, _, hc.me T x1.fH T.m_Lists_least_votes rfl, (ok_Lists_least_votes T).mono (by decide), ?_⟩
  walk_at "rd"
  refine ⟨F1, sh, n, rfl, x1.sub, x1.mono hs, fun H2 s2 => ?_⟩
  have x2 : Xt F H F1 H2 := x1.trans (Xt.of x1.sub s2)
  have nok := hs.ok
  have sum0 : 0 ≤ n.sum := by have := nok.a0; have := nok.b0; have := nok.i0; unfold Vt.sum; omega
  refine ⟨F, v, c.ht, c.hb, n.sum, rfl, x2.fH, hh, sum0, nok.m, fun H3 s3 => ?_⟩
  have x3 : Xt F H F1 H3 := x2.trans (Xt.of x2.sub s3)
  generalize hW : want c.ht c.hb n.sum = W at q ⊢
  walk_at "rd"
  refine ⟨szl (by simp), fun p0 hp0 => ?_⟩
  have x4 := x3.newH (o := .lst [.int 0]) hp0
  walk_at "rd"
  refine hc.hands T x4.fH ?_
  refine rd_rep upd_same (by decide) (by decide) (by decide) fun l1 hl1 => ?_
  have o1 : Own F H F1 _ l1 [.int 0, .int 0] := Own.mk' x4 hl1
  walk_at "rd"
  refine ⟨szl (by simp), fun l2 hl2 => ?_⟩
  obtain ⟨o1, o2, hne⟩ := o1.new2 (a2 := []) hl2
  walk_at "rd"
  refine ⟨fun m σ H' => ∃ (F2 : Hp) (bs : List Bool) (acc : List V) (h0 h1 : Int) (y6 y7 : Option V), σ = [some v, some sh, some vo, some (.int W), some (.ref l1), some (.ref l2), y6, y7] ∧ Same F1 F2 ∧ Own F H F2 H' l1 [.int h0, .int h1] ∧ Own F H F2 H' l2 acc ∧
      All2 (RoundR K F2) acc bs ∧ bs.length ≤ c.S ∧ m = c.S - bs.length ∧ runM c.f c.st W n.a n.b c.S 0 0 = bs ++ runM c.f c.st W n.a n.b (c.S - bs.length) h0 h1 ∧ 0 ≤ h0 ∧ 0 ≤ h1 ∧ h0 + h1 = bs.length,
    ⟨_, F1, [], [], 0, 0, _, _, rfl, Same.refl F1, o1, o2, .nil, Nat.zero_le _, rfl, rfl, by omega, by omega, rfl⟩, ?_⟩
  rintro m σ H' ⟨F2, bs, acc, h0, h1, y6, y7, rfl, s12, o1, o2, ha, hl, rfl, hrun, a0, b0, hsum⟩
  have hs3 := cok.s3
  have lacc := ha.length
  walk_at "rd"
  refine rd_lenL (SqL.of o2.e) ?_
  walk_at "rd"
  refine hc.seats T o1.x.fH ?_
  walk_at "rd"
  refine ifD (fun hlt => ?_) fun hge => ?_
  · have hlt' : bs.length < c.S := by omega
    obtain ⟨k, hk⟩ : ∃ k, c.S - bs.length = k + 1 := ⟨c.S - bs.length - 1, by omega⟩
    refine ⟨fun σ H' => ∃ (F2 : Hp) (bs' : List Bool) (acc : List V) (h0 h1 : Int) (y6 y7 : Option V), σ = [some v, some sh, some vo, some (.int W), some (.ref l1), some (.ref l2), y6, y7] ∧ Same F1 F2 ∧ Own F H F2 H' l1 [.int h0, .int h1] ∧ Own F H F2 H' l2 acc ∧
      All2 (RoundR K F2) acc bs' ∧ bs'.length = bs.length + 1 ∧ runM c.f c.st W n.a n.b c.S 0 0 = bs' ++ runM c.f c.st W n.a n.b (c.S - bs'.length) h0 h1 ∧ 0 ≤ h0 ∧ 0 ≤ h1 ∧ h0 + h1 = bs'.length, ?_, ?_⟩
    · rintro σ' H' ⟨F2, bs', acc, h0, h1, y6, y7, rfl, s12, o1, o2, ha, hl', hrun, a0, b0, hsum⟩
      exact ⟨c.S - bs'.length, by omega, F2, bs', acc, h0, h1, _, _, rfl, s12, o1, o2, ha, by omega, rfl, hrun, a0, b0, hsum⟩
    walk_at "rd"
    refine ⟨v, vo, .ref l1, F2, c.f, c.st, W, n.a, n.b, n.i, h0, h1, rfl, o1.x.sub, hw.mono o1.x.ff, sm_mo s12 hvo, ⟨l1, rfl, SqL.of o1.e⟩, a0, by omega, b0, by omega, fun u F3 H3 x3 hu => ?_⟩
    have o1 := o1.step x3
    have o2 := o2.step x3
    walk_at "rd"
    refine ⟨v, u, F3, c.f, c.st, _, _, rfl, x3.sub, hw.mono o1.x.ff, hu, pb_mk cok.st a0 (by omega), pb_mk cok.st b0 (by omega), ?_⟩
    rw [hk, runM] at hrun
    generalize hP : pickM c.f (mk c.st W n.a h0) (mk c.st W n.b h1) = b at hrun ⊢
    cases b with
    | none =>
      walk_at "rd"
      refine ifT rfl ?_
      walk_at "rd"
      refine ⟨szl (by simp), fun pt hpt => ?_⟩
      rw [List.append_nil] at hrun
      refine q _ _ _ ((o2.fin).new hpt) ⟨pt, vo, _, _, rfl, SqT.of upd_same, l2, acc, rfl, (same_new (o2.fin.sub.free hpt)).seq (SqL.of upd_same), ?_⟩
      rw [hrun]
      exact ha.imp fun _ _ r => sm_mo (x3.ff.trans (o2.ff.trans (same_new (o2.fin.sub.free hpt)))) r
    | some b =>
      walk_at "rd"
      refine ifF (by simp [bV]) ?_
      walk_at "rd"
      refine ⟨ty_list (SqL.of o2.e), ?_⟩
      walk_at "rd"
      refine ⟨szl (by simp), fun pt hpt => ?_⟩
      have xt : Xt F3 H3 (upd F3 pt (.tup [u, bV (some b)])) (upd H3 pt (.tup [u, bV (some b)])) := (Xt.refl x3.sub).new hpt
      have o1 := o1.step xt
      have o2 := o2.step xt
      walk_at "rd"
      refine rd_append o2.e (by omega) ?_
      have o1 := o1.other (o := .lst (acc ++ [.ref pt])) o2 hne
      have o2 := o2.set (acc' := acc ++ [.ref pt])
      have sF : Same F2 (upd F3 pt (.tup [u, bV (some b)])) := x3.ff.trans xt.ff
      have ha2 : All2 (RoundR K (upd F3 pt (.tup [u, bV (some b)]))) (acc ++ [.ref pt]) (bs ++ [b]) := (ha.imp fun _ _ r => sm_mo sF r).snoc ⟨pt, u, rfl, SqT.of upd_same⟩
      have hlen : (bs ++ [b]).length = bs.length + 1 := by simp
      walk_at "rd"
      have fin : ∀ h0' h1' : Int, h0' = h0 + (1 - hI b) → h1' = h1 + hI b → ∀ H5, Own F H (upd F3 pt (.tup [u, bV (some b)])) H5 l1 [.int h0', .int h1'] → Own F H (upd F3 pt (.tup [u, bV (some b)])) H5 l2 (acc ++ [.ref pt]) →
          ∃ (F2 : Hp) (bs' : List Bool) (acc : List V) (h0 h1 : Int) (y6 y7 : Option V), [some v, some sh, some vo, some (.int W), some (.ref l1), some (.ref l2), some u, some (bV (some b))] = [some v, some sh, some vo, some (.int W), some (.ref l1), some (.ref l2), y6, y7] ∧ Same F1 F2 ∧ Own F H F2 H5 l1 [.int h0, .int h1] ∧ Own F H F2 H5 l2 acc ∧
            All2 (RoundR K F2) acc bs' ∧ bs'.length = bs.length + 1 ∧ runM c.f c.st W n.a n.b c.S 0 0 = bs' ++ runM c.f c.st W n.a n.b (c.S - bs'.length) h0 h1 ∧ 0 ≤ h0 ∧ 0 ≤ h1 ∧ h0 + h1 = bs'.length := by
        rintro h0' h1' rfl rfl H5 o1 o2
        refine ⟨_, bs ++ [b], _, _, _, _, _, rfl, s12.trans sF, o1, o2, ha2, hlen, ?_, by have := hI_bd b; omega, by have := hI_bd b; omega, by rw [hlen]; omega⟩
        rw [hlen, show c.S - (bs.length + 1) = k by omega, hrun, List.append_assoc]
        rfl
      cases b with
      | false =>
        refine rd_ixL (SqL.of o1.e) rfl ?_
        walk_at "rd"
        refine rd_setL o1.e rfl ?_
        exact fin (h0 + 1) h1 (by simp [hI]) (by simp [hI]) _ o1.set (o2.other o1 hne.symm)
      | true =>
        refine rd_ixL (SqL.of o1.e) rfl ?_
        walk_at "rd"
        refine rd_setL o1.e rfl ?_
        exact fin h0 (h1 + 1) (by simp [hI]) (by simp [hI]) _ o1.set (o2.other o1 hne.symm)
  · walk_at "rd"
    refine ⟨szl (by simp), fun pt hpt => ?_⟩
    rw [show c.S - bs.length = 0 by omega] at hrun
    rw [show runM c.f c.st W n.a n.b 0 h0 h1 = [] from rfl, List.append_nil] at hrun
    refine q _ _ _ ((o2.fin).new hpt) ⟨pt, vo, _, _, rfl, SqT.of upd_same, l2, acc, rfl, (same_new (o2.fin.sub.free hpt)).seq (SqL.of upd_same), ?_⟩
    rw [hrun]
    exact ha.imp fun _ _ r => sm_mo (o2.ff.trans (same_new (o2.fin.sub.free hpt))) r
end
end Wp


set_option Elab.async false
set_option linter.all false
set_option maxRecDepth 100000
set_option maxHeartbeats 4000000
namespace Wp
open PySem PySem.Spec PyProof.Rows L2
local macro_rules | `(tactic| walk_at "rd") => `(tactic| repeat (first
  | ((with_reducible apply rd_var); · exact rfl)
  | with_reducible refine rd_c ?_ | with_reducible refine rd_op ?_ | with_reducible refine rd_un ?_ | with_reducible refine rd_test ?_ | with_reducible refine rd_B ?_ | with_reducible refine rd_bl ?_
  | with_reducible refine rd_and ?_ | with_reducible refine rd_or ?_ | with_reducible refine rd_not ?_ | with_reducible refine rd_andV ?_ | with_reducible refine rd_orV ?_ | with_reducible refine rd_notV ?_ | with_reducible refine rd_ifE ?_
  | with_reducible refine rd_seq ?_ | with_reducible refine rd_asg ?_ | ((with_reducible apply rd_name); · (simp only [List.set_cons_zero, List.set_cons_succ]; exact rfl)) | with_reducible refine rd_ret ?_ | with_reducible refine rd_drop ?_ | with_reducible refine rd_if ?_ | with_reducible refine rd_next ?_ | with_reducible refine rd_break ?_ | with_reducible refine rd_cont ?_
  | with_reducible refine rd_cl ?_ | with_reducible refine rd_cb ?_ | with_reducible refine rd_mk ?_ | with_reducible refine rd_cons ?_ | with_reducible refine rd_nil ?_ | with_reducible refine rd_tup ?_ | with_reducible refine rd_lst ?_ | with_reducible refine rd_at ?_ | with_reducible refine rd_gAt ?_
  | with_reducible refine rd_isN ?_ | with_reducible refine rd_notN ?_ | with_reducible refine rd_abs ?_ | with_reducible refine rd_max ?_ | with_reducible refine rd_int ?_ | with_reducible refine rd_intB ?_ | with_reducible refine rd_consG ?_ | with_reducible refine rd_nilG ?_ | with_reducible refine rd_ipI ?_ | ((with_reducible apply rd_aug); · exact rfl)
  | with_reducible refine rd_par ?_ | with_reducible refine rd_par3 ?_ | ((with_reducible apply rd_parQ); · (simp only [List.set_cons_zero, List.set_cons_succ]; exact rfl)) | ((with_reducible apply rd_par3Q); · (simp only [List.set_cons_zero, List.set_cons_succ]; exact rfl))
  | with_reducible refine rd_yes ?_ | with_reducible refine rd_chain ?_ | with_reducible refine rd_bm ?_ | with_reducible refine rd_bm0 ?_ | with_reducible refine rd_me ?_ | with_reducible refine rd_augS ?_ | with_reducible refine rd_subG ?_ | with_reducible refine rd_forR ?_ | with_reducible refine rd_sl ?_ | with_reducible refine rd_part ?_ | with_reducible refine rd_partQ ?_ | with_reducible refine rd_noPart ?_ | with_reducible refine rd_lstRg ?_ | with_reducible refine rd_forL ?_ | with_reducible refine rd_forE ?_ | with_reducible refine rd_forZ ?_ | with_reducible refine rd_lcL ?_ | with_reducible refine rd_lcR ?_ | with_reducible refine rd_lcE ?_ | with_reducible refine rd_lcZ ?_ | with_reducible refine rd_while ?_
  | with_reducible refine iteT ?_ | with_reducible refine iteF ?_ | with_reducible refine ifNotT ?_ | with_reducible refine ifNotF ?_ | with_reducible refine rd_I0 ?_ | with_reducible refine rd_U ?_ | with_reducible refine rd_add ?_ | with_reducible refine rd_eqI ?_ | with_reducible refine rd_neI ?_ | with_reducible refine rd_eqB ?_))
local macro_rules | `(tactic| walk_at "st") => `(tactic| (intro σ hσ; simp only [L2.start, List.map_cons, List.map_nil, List.length_cons, List.length_nil, List.reduceReplicate, List.replicate_zero, List.append_nil, Nat.reduceAdd, Nat.reduceSub, List.cons_append, List.nil_append] at hσ; subst hσ; try dsimp only [cxOf, Cx.nox, Cx.wish]))
local macro_rules | `(tactic| walk_at "wp") => `(tactic| (simp only [List.map_cons, List.map_nil, wipe, List.set_cons_zero, List.set_cons_succ]))
section
variable {P : Program} {w : World} {K : PySem.W.Frag} {mg : Str → Option Value} {base : Heap}
/-! ### told_by, evened_by -/
def I2 (p : Int × Int) : List Int := [p.1, p.2]
theorem cnt_snoc (bs : List Bool) (b : Bool) : cnt (bs ++ [b]) = ((cnt bs).1 + (1 - hI b), (cnt bs).2 + hI b) := by
  unfold cnt
  rw [List.filter_append, List.filter_append]
  cases b <;> simp [hI]
theorem cnt_nil : cnt [] = (0, 0) := rfl
def sp_told_by (K : PySem.W.Frag) : Sp := fun vs H Q _ => ∃ (F : Hp) (v pa : V) (c : Cfg) (bs : List Bool), vs = [v, pa] ∧ Same F H ∧ IsLists K F v c ∧ PaperR K F pa bs ∧ ∀ u F' H', Xt F H F' H' → ILst K F' u (I2 (cnt bs)) → Q u H'
theorem ok_Lists_told_by (T : Txt K mg) : Ok P w K mg base 1 (He.ma K (He.ga K "Lists") "told_by") (sp_told_by K) := by
  refine Ok.of T.fd_Lists_told_by Txt.b_Lists_told_by sc_Lists_told_by (fun vs H Q E h => ?_) fun cdv A outer s H vs Q E hr h => ?_
  · obtain ⟨_, _, _, _, _, rfl, _⟩ := h
    rfl
  obtain ⟨F, v, pa, c, bs, rfl, s, hc, ⟨ap, px, py, rdv, rfl, hp3, hrd⟩, q⟩ := h
  refine ⟨_, (pss_cons (ps_set (i := 2) sc_Lists_told_by.nd rfl (Or.inl rfl) (pe_op op_mul2 (pe_lst (pa_cons pe_int pa_nil)) (pe_at (pv 0))))
      (pss_cons (ps_for PassesOwn.never rfl (pi_list (pe_ix ix_seq (pv 1) pe_int (fun _ _ => rfl))) (pg_tup rfl (pgs_cons (pg_name (i := 3) sc_Lists_told_by.nd rfl (Or.inl rfl)) (pgs_cons (pg_name (i := 4) sc_Lists_told_by.nd rfl (Or.inl rfl)) pgs_nil))) (pss_one (ps_asg (pe_op op_add2 (pe_ix ix_seq (pv 2) (pv 4) (fun _ _ => rfl)) pe_int) (pg_sub (pv 2) (pv 4) set_list))))
      (pss_one (ps_ret (pv 2))))), ?_⟩
  walk_at "st"
  walk_at "rd"
  refine ⟨szl (by simp), fun p0 hp0 => ?_⟩
  have x0 := (Xt.refl s).newH (o := .lst [.int 0]) hp0
  walk_at "rd"
  refine hc.hands T x0.fH ?_
  refine rd_rep upd_same (by decide) (by decide) (by decide) fun p hp => ?_
  have o : Own F H F _ p [.int 0, .int 0] := Own.mk' x0 hp
  walk_at "rd"
  refine rd_ixT (o.x.stt hp3) rfl ?_
  refine fo_list (R := RoundR K) (fun i σ F1 H1 => ∃ (y3 y4 : Option V), σ = [some v, some (.ref ap), some (.ref p), y3, y4] ∧ Xt F H F1 H1 ∧ Own F H F1 H1 p ((I2 (cnt (bs.take i))).map .int)) hrd ⟨_, _, rfl, o.x, o⟩ (fun i σ F1 H1 ⟨_, _, _, x, o⟩ => ⟨x.ff, x.sub⟩) ?_ ?_
  · rintro i y u σ F1 H1 hy ⟨a, m, rfl, ht⟩ ⟨y3, y4, rfl, x, o⟩
    have e : cnt (bs.take (i + 1)) = ((cnt (bs.take i)).1 + (1 - hI y), (cnt (bs.take i)).2 + hI y) := by
      rw [List.take_add_one, hy]
      exact cnt_snoc _ _
    refine rd_tupG (sm_t x.sub ht) rfl ?_
    walk_at "rd"
    cases y with
    | false =>
      refine rd_ixL (SqL.of o.e) rfl ?_
      walk_at "rd"
      refine rd_setL o.e rfl ?_
      refine ⟨F1, _, _, rfl, (o.set).x, ?_⟩
      rw [e]
      exact (show ((cnt (bs.take i)).2 + hI false) = (cnt (bs.take i)).2 from Int.add_zero _) ▸ o.set
    | true =>
      refine rd_ixL (SqL.of o.e) rfl ?_
      walk_at "rd"
      refine rd_setL o.e rfl ?_
      refine ⟨F1, _, _, rfl, (o.set).x, ?_⟩
      rw [e]
      exact (show ((cnt (bs.take i)).1 + (1 - hI true)) = (cnt (bs.take i)).1 from Int.add_zero _) ▸ o.set
  · rintro σ F1 H1 ⟨y3, y4, rfl, x, o⟩
    walk_at "rd"
    rw [List.take_length] at o
    exact q _ _ _ o.fin (ilst_of (SqL.of upd_same))
def sp_evened_by (K : PySem.W.Frag) : Sp := fun vs H Q _ => ∃ (F : Hp) (v pa : V) (c : LCfg) (bs : List Bool), vs = [v, pa] ∧ Same F H ∧ IsLand K F v c ∧ PaperR K F pa bs ∧ ∀ u F' H', Xt F H F' H' → ILst K F' u (I2 (cnt bs)) → Q u H'
theorem ok_evened_by (T : Txt K mg) : Ok P w K mg base 1 (He.ga K "evened_by") (sp_evened_by K) := by
  refine Ok.of T.fd_evened_by Txt.b_evened_by sc_evened_by (fun vs H Q E h => ?_) fun cdv A outer s H vs Q E hr h => ?_
  · obtain ⟨_, _, _, _, _, rfl, _⟩ := h
    rfl
  obtain ⟨F, v, pa, c, bs, rfl, s, hc, ⟨ap, px, py, rdv, rfl, hp3, hrd⟩, q⟩ := h
  refine ⟨_, (pss_cons (ps_set (i := 2) sc_evened_by.nd rfl (Or.inl rfl) (pe_op op_mul2 (pe_lst (pa_cons pe_int pa_nil)) (pe_at (pv 0))))
      (pss_cons (ps_for PassesOwn.never rfl (pi_list (pe_ix ix_seq (pv 1) pe_int (fun _ _ => rfl))) (pg_tup rfl (pgs_cons (pg_name (i := 3) sc_evened_by.nd rfl (Or.inl rfl)) (pgs_cons (pg_name (i := 4) sc_evened_by.nd rfl (Or.inl rfl)) pgs_nil))) (pss_one (ps_augS (pv 2) (pv 4) get_list pe_int ip_add set_list)))
      (pss_one (ps_ret (pv 2))))), ?_⟩
  walk_at "st"
  walk_at "rd"
  refine ⟨szl (by simp), fun p0 hp0 => ?_⟩
  have x0 := (Xt.refl s).newH (o := .lst [.int 0]) hp0
  walk_at "rd"
  refine hc.hands T x0.fH ?_
  refine rd_rep upd_same (by decide) (by decide) (by decide) fun p hp => ?_
  have o : Own F H F _ p [.int 0, .int 0] := Own.mk' x0 hp
  walk_at "rd"
  refine rd_ixT (o.x.stt hp3) rfl ?_
  refine fo_list (R := RoundR K) (fun i σ F1 H1 => ∃ (y3 y4 : Option V), σ = [some v, some (.ref ap), some (.ref p), y3, y4] ∧ Xt F H F1 H1 ∧ Own F H F1 H1 p ((I2 (cnt (bs.take i))).map .int)) hrd ⟨_, _, rfl, o.x, o⟩ (fun i σ F1 H1 ⟨_, _, _, x, o⟩ => ⟨x.ff, x.sub⟩) ?_ ?_
  · rintro i y u σ F1 H1 hy ⟨a, m, rfl, ht⟩ ⟨y3, y4, rfl, x, o⟩
    have e : cnt (bs.take (i + 1)) = ((cnt (bs.take i)).1 + (1 - hI y), (cnt (bs.take i)).2 + hI y) := by
      rw [List.take_add_one, hy]
      exact cnt_snoc _ _
    refine rd_tupG (sm_t x.sub ht) rfl ?_
    walk_at "rd"
    cases y with
    | false =>
      refine rd_ixLg (SqL.of o.e) rfl ?_
      walk_at "rd"
      refine rd_setL o.e rfl ?_
      refine ⟨F1, _, _, rfl, (o.set).x, ?_⟩
      rw [e]
      exact (show ((cnt (bs.take i)).2 + hI false) = (cnt (bs.take i)).2 from Int.add_zero _) ▸ o.set
    | true =>
      refine rd_ixLg (SqL.of o.e) rfl ?_
      walk_at "rd"
      refine rd_setL o.e rfl ?_
      refine ⟨F1, _, _, rfl, (o.set).x, ?_⟩
      rw [e]
      exact (show ((cnt (bs.take i)).1 + (1 - hI true)) = (cnt (bs.take i)).1 from Int.add_zero _) ▸ o.set
  · rintro σ F1 H1 ⟨y3, y4, rfl, x, o⟩
    walk_at "rd"
    rw [List.take_length] at o
    exact q _ _ _ o.fin (ilst_of (SqL.of upd_same))
/-! ### Way.outcome -/
def sp_outcome (K : PySem.W.Frag) : Sp := fun vs H Q _ => ∃ (F : Hp) (v sh : V) (c : Cfg) (n : Vt), vs = [v, sh] ∧ Same F H ∧ IsLists K F v c ∧ SheetR K F sh n ∧ ∀ u F' H', Xt F H F' H' → ILst K F' u (I2 (outA c n)) → Q u H'
theorem ok_Way_outcome (T : Txt K mg) : Ok P w K mg base 6 (He.ma K (He.ga K "Way") "outcome") (sp_outcome K) := by
  refine Ok.of T.fd_Way_outcome Txt.b_Way_outcome sc_Way_outcome (fun vs H Q E h => ?_) fun cdv A outer s H vs Q E hr h => ?_
  · obtain ⟨_, _, _, _, _, rfl, _⟩ := h
    rfl
  obtain ⟨F, v, sh, c, n, rfl, s, hc, hs, q⟩ := h
  refine ⟨_, (pss_one (ps_ret (pe_me (k := 1) (hr.mono (by decide)) (pv 0) (pa_cons (pe_me (k := 5) (hr.mono (by decide)) (pv 0) (pa_cons (pv 1) pa_nil)) pa_nil)))), ?_⟩
  walk_at "st"
  walk_at "rd"
  refine ⟨_, _, hc.me T s T.m_Lists_told_by rfl, (ok_Lists_told_by T).mono (by decide), ?_⟩
  walk_at "rd"
  refine ⟨_, _, hc.me T s T.m_Lists_counted rfl, (ok_Lists_counted T).mono (by decide), ?_⟩
  walk_at "rd"
  refine ⟨F, v, sh, c, n, rfl, s, hc, hs, fun u F1 H1 x1 hu => ?_⟩
  walk_at "rd"
  exact ⟨F1, v, u, c, _, rfl, x1.sub, x1.mono hc, hu, fun u2 F2 H2 x2 hu2 => q _ _ _ (x1.trans x2) hu2⟩
/-! ### rounds_of, evening -/
theorem pickM_none {f : Bool} {st w v0 v1 h0 h1 : Int} (h : pickM f (mk st w v0 h0) (mk st w v1 h1) = none) : v0 < w ∧ v1 < w := by
  unfold mk at h
  split at h <;> split at h
  · exact ⟨‹_›, ‹_›⟩
  · simp [pickM] at h
  · simp [pickM] at h
  · simp [pickM] at h
theorem runM_none {f : Bool} {st w v0 v1 : Int} (h : v0 < w ∧ v1 < w) : ∀ (n : Nat) (h0 h1 : Int), runM f st w v0 v1 n h0 h1 = []
  | 0, _, _ => rfl
  | n + 1, h0, h1 => by
    unfold runM mk
    rw [if_pos h.1, if_pos h.2]
    rfl
def sp_rounds_of (K : PySem.W.Frag) : Sp := fun vs H Q _ => ∃ (F : Hp) (v vo ha : V) (W : Int) (c : LCfg) (n : Vt) (h0 h1 : Int), vs = [v, vo, .int W, ha, .int (c.ev : Int)] ∧ Same F H ∧ IsLand K F v c ∧ ILst K F vo n.l ∧ ILst K F ha [h0, h1] ∧ 0 ≤ h0 ∧ h0 ≤ 400 ∧ 0 ≤ h1 ∧ h1 ≤ 400 ∧
  ∀ u F' H', Xt F H F' H' → LstR K (RoundR K) F' u (runM c.f c.st W n.a n.b c.ev h0 h1) → Q u H'
theorem ok_rounds_of (T : Txt K mg) : Ok P w K mg base 5 (He.ga K "rounds_of") (sp_rounds_of K) := by
  refine Ok.of T.fd_rounds_of Txt.b_rounds_of sc_rounds_of (fun vs H Q E h => ?_) fun cdv A outer s H vs Q E hr h => ?_
  · obtain ⟨_, _, _, _, _, _, _, _, _, rfl, _⟩ := h
    rfl
  obtain ⟨F, v, vo, ha, W, c, n, i0, i1, rfl, s, hc, hvo, hha, ha0, ha1, hb0, hb1, q⟩ := h
  have cok : LOk c := by
    obtain ⟨_, _, _, _, _, _, _, _, _, _, h⟩ := hc
    exact h
  have hw : WayR K F v c.f c.st := .inr ⟨c, hc, rfl, rfl⟩
  obtain ⟨la, rfl, hla⟩ := ilst_to hha
  refine ⟨_, (pss_cons (ps_par (i := 5) (j := 6) (by rfl) sc_rounds_of.nd rfl rfl (by decide) rfl rfl (pa_cons (pe_callTy call_listN (by rfl) T.f_list (by decide +kernel) (pa_cons (pv 3) pa_nil)) (pa_cons (pe_lst pa_nil) pa_nil)) (by rfl))
      (pss_cons (ps_while PassesOwn.never (pt_cmpR op_lt (pe_callB call_lenN (by rfl) T.f_len PySem.boot_len (pa_cons (pv 6) pa_nil)) (pv 4) (nomark _)) (pss_cons (ps_set (i := 7) sc_rounds_of.nd rfl (Or.inl rfl) (pe_cl (ok_marks_of T) (hr.mono (by decide)) (by rfl) T.g_marks_of (pa_cons (pv 0) (pa_cons (pv 1) (pa_cons (pv 2) (pa_cons (pv 5) pa_nil))))))
      (pss_cons (ps_set (i := 8) sc_rounds_of.nd rfl (Or.inl rfl) (pe_cl (ok_seat_due T) (hr.mono (by decide)) (by rfl) T.g_seat_due (pa_cons (pv 0) (pa_cons (pv 7) pa_nil))))
      (pss_cons (ps_if (pt_cmpR op_isNN (pv 8) pe_non (nomark _)) (pss_one (ps_ret (pe_lst pa_nil))) pss_nil)
      (pss_cons (ps_expr (pe_bm PySem.F.plainAttrs_list PySem.F.slot_list_append PySem.F.type_list_append mt_append (pv 6) (pa_cons (pe_tup (pa_cons (pv 7) (pa_cons (pv 8) pa_nil))) pa_nil)))
      (pss_one (ps_augS (pv 5) (pv 8) get_list pe_int ip_add set_list)))))))
      (pss_one (ps_ret (pv 6))))), ?_⟩
  walk_at "st"
  walk_at "rd"
  refine rd_listL (s.seq hla) fun l1 hl1 => ?_
  have o1 : Own F H F _ l1 [.int i0, .int i1] := Own.mk' (Xt.refl s) hl1
  walk_at "rd"
  refine ⟨szl (by simp), fun l2 hl2 => ?_⟩
  obtain ⟨o1, o2, hne⟩ := o1.new2 (a2 := []) hl2
  walk_at "rd"
  refine ⟨fun m σ H' => ∃ (F2 : Hp) (bs : List Bool) (acc : List V) (h0 h1 : Int) (y6 y7 : Option V), σ = [some v, some vo, some (.int W), some (.ref la), some (.int (c.ev : Int)), some (.ref l1), some (.ref l2), y6, y7] ∧ Same F F2 ∧ Own F H F2 H' l1 [.int h0, .int h1] ∧ Own F H F2 H' l2 acc ∧
      All2 (RoundR K F2) acc bs ∧ bs.length ≤ c.ev ∧ m = c.ev - bs.length ∧ runM c.f c.st W n.a n.b c.ev i0 i1 = bs ++ runM c.f c.st W n.a n.b (c.ev - bs.length) h0 h1 ∧ 0 ≤ h0 ∧ 0 ≤ h1 ∧ h0 + h1 = i0 + i1 + bs.length,
    ⟨_, F, [], [], i0, i1, _, _, rfl, Same.refl F, o1, o2, .nil, Nat.zero_le _, rfl, rfl, by omega, by omega, by simp⟩, ?_⟩
  rintro m σ H' ⟨F2, bs, acc, h0, h1, y6, y7, rfl, s12, o1, o2, ha, hl, rfl, hrun, a0, b0, hsum⟩
  have he2 := cok.e2
  have lacc := ha.length
  walk_at "rd"
  refine rd_lenL (SqL.of o2.e) ?_
  walk_at "rd"
  refine ifD (fun hlt => ?_) fun hge => ?_
  · have hlt' : bs.length < c.ev := by omega
    obtain ⟨k, hk⟩ : ∃ k, c.ev - bs.length = k + 1 := ⟨c.ev - bs.length - 1, by omega⟩
    refine ⟨fun σ H' => ∃ (F2 : Hp) (bs' : List Bool) (acc : List V) (h0 h1 : Int) (y6 y7 : Option V), σ = [some v, some vo, some (.int W), some (.ref la), some (.int (c.ev : Int)), some (.ref l1), some (.ref l2), y6, y7] ∧ Same F F2 ∧ Own F H F2 H' l1 [.int h0, .int h1] ∧ Own F H F2 H' l2 acc ∧
      All2 (RoundR K F2) acc bs' ∧ bs'.length = bs.length + 1 ∧ runM c.f c.st W n.a n.b c.ev i0 i1 = bs' ++ runM c.f c.st W n.a n.b (c.ev - bs'.length) h0 h1 ∧ 0 ≤ h0 ∧ 0 ≤ h1 ∧ h0 + h1 = i0 + i1 + bs'.length, ?_, ?_⟩
    · rintro σ' H' ⟨F2, bs', acc, h0, h1, y6, y7, rfl, s12, o1, o2, ha, hl', hrun, a0, b0, hsum⟩
      exact ⟨c.ev - bs'.length, by omega, F2, bs', acc, h0, h1, _, _, rfl, s12, o1, o2, ha, by omega, rfl, hrun, a0, b0, hsum⟩
    walk_at "rd"
    refine ⟨v, vo, .ref l1, F2, c.f, c.st, W, n.a, n.b, n.i, h0, h1, rfl, o1.x.sub, hw.mono o1.x.ff, sm_mo s12 hvo, ⟨l1, rfl, SqL.of o1.e⟩, a0, by omega, b0, by omega, fun u F3 H3 x3 hu => ?_⟩
    have o1 := o1.step x3
    have o2 := o2.step x3
    walk_at "rd"
    refine ⟨v, u, F3, c.f, c.st, _, _, rfl, x3.sub, hw.mono o1.x.ff, hu, pb_mk cok.st a0 (by omega), pb_mk cok.st b0 (by omega), ?_⟩
    rw [hk, runM] at hrun
    generalize hP : pickM c.f (mk c.st W n.a h0) (mk c.st W n.b h1) = b at hrun ⊢
    cases b with
    | none =>
      walk_at "rd"
      refine ifT rfl ?_
      walk_at "rd"
      refine ⟨szl (by simp), fun pt hpt => ?_⟩
      rw [runM_none (pickM_none hP)] at q
      exact q _ _ _ (o2.x.new hpt) ⟨pt, [], rfl, SqL.of upd_same, .nil⟩
    | some b =>
      walk_at "rd"
      refine ifF (by simp [bV]) ?_
      walk_at "rd"
      refine ⟨ty_list (SqL.of o2.e), ?_⟩
      walk_at "rd"
      refine ⟨szl (by simp), fun pt hpt => ?_⟩
      have xt : Xt F3 H3 (upd F3 pt (.tup [u, bV (some b)])) (upd H3 pt (.tup [u, bV (some b)])) := (Xt.refl x3.sub).new hpt
      have o1 := o1.step xt
      have o2 := o2.step xt
      walk_at "rd"
      refine rd_append o2.e (by omega) ?_
      have o1 := o1.other (o := .lst (acc ++ [.ref pt])) o2 hne
      have o2 := o2.set (acc' := acc ++ [.ref pt])
      have sF : Same F2 (upd F3 pt (.tup [u, bV (some b)])) := x3.ff.trans xt.ff
      have ha2 : All2 (RoundR K (upd F3 pt (.tup [u, bV (some b)]))) (acc ++ [.ref pt]) (bs ++ [b]) := (ha.imp fun _ _ r => sm_mo sF r).snoc ⟨pt, u, rfl, SqT.of upd_same⟩
      have hlen : (bs ++ [b]).length = bs.length + 1 := by simp
      walk_at "rd"
      have fin : ∀ h0' h1' : Int, h0' = h0 + (1 - hI b) → h1' = h1 + hI b → ∀ H5, Own F H (upd F3 pt (.tup [u, bV (some b)])) H5 l1 [.int h0', .int h1'] → Own F H (upd F3 pt (.tup [u, bV (some b)])) H5 l2 (acc ++ [.ref pt]) →
          ∃ (F2 : Hp) (bs' : List Bool) (acc : List V) (h0 h1 : Int) (y6 y7 : Option V), [some v, some vo, some (.int W), some (.ref la), some (.int (c.ev : Int)), some (.ref l1), some (.ref l2), some u, some (bV (some b))] = [some v, some vo, some (.int W), some (.ref la), some (.int (c.ev : Int)), some (.ref l1), some (.ref l2), y6, y7] ∧ Same F F2 ∧ Own F H F2 H5 l1 [.int h0, .int h1] ∧ Own F H F2 H5 l2 acc ∧
            All2 (RoundR K F2) acc bs' ∧ bs'.length = bs.length + 1 ∧ runM c.f c.st W n.a n.b c.ev i0 i1 = bs' ++ runM c.f c.st W n.a n.b (c.ev - bs'.length) h0 h1 ∧ 0 ≤ h0 ∧ 0 ≤ h1 ∧ h0 + h1 = i0 + i1 + bs'.length := by
        rintro h0' h1' rfl rfl H5 o1 o2
        refine ⟨_, bs ++ [b], _, _, _, _, _, rfl, s12.trans sF, o1, o2, ha2, hlen, ?_, by have := hI_bd b; omega, by have := hI_bd b; omega, by rw [hlen]; omega⟩
        rw [hlen, show c.ev - (bs.length + 1) = k by omega, hrun, List.append_assoc]
        rfl
      cases b with
      | false =>
        refine rd_ixLg (SqL.of o1.e) rfl ?_
        walk_at "rd"
        refine rd_setL o1.e rfl ?_
        exact fin (h0 + 1) h1 (by simp [hI]) (by simp [hI]) _ o1.set (o2.other o1 hne.symm)
      | true =>
        refine rd_ixLg (SqL.of o1.e) rfl ?_
        walk_at "rd"
        refine rd_setL o1.e rfl ?_
        exact fin h0 (h1 + 1) (by simp [hI]) (by simp [hI]) _ o1.set (o2.other o1 hne.symm)
  · walk_at "rd"
    rw [show c.ev - bs.length = 0 by omega] at hrun
    rw [show runM c.f c.st W n.a n.b 0 h0 h1 = [] from rfl, List.append_nil] at hrun
    refine q _ _ _ o2.fin ⟨l2, acc, rfl, SqL.of upd_same, ?_⟩
    rw [hrun]
    exact ha.imp fun _ _ r => sm_mo o2.ff r
def sp_evening (K : PySem.W.Frag) : Sp := fun vs H Q _ => ∃ (F : Hp) (v vo ha : V) (c : LCfg) (n : Vt) (h0 h1 : Int), vs = [v, vo, ha] ∧ Same F H ∧ IsLand K F v c ∧ ILst K F vo n.l ∧ VtOk n ∧ ILst K F ha [h0, h1] ∧ 0 ≤ h0 ∧ h0 ≤ 400 ∧ 0 ≤ h1 ∧ h1 ≤ 400 ∧
  ∀ u F' H', Xt F H F' H' → PaperR K F' u (runM c.f c.st (want c.ht c.hb n.sum) n.a n.b c.ev h0 h1) → Q u H'
theorem ok_evening (T : Txt K mg) : Ok P w K mg base 6 (He.ga K "evening") (sp_evening K) := by
  refine Ok.of T.fd_evening Txt.b_evening sc_evening (fun vs H Q E h => ?_) fun cdv A outer s H vs Q E hr h => ?_
  · obtain ⟨_, _, _, _, _, _, _, _, rfl, _⟩ := h
    rfl
  obtain ⟨F, v, vo, ha, c, n, i0, i1, rfl, s, hc, hvo, nok, hha, ha0, ha1, hb0, hb1, q⟩ := h
  obtain ⟨lv, rfl, hlv⟩ := ilst_to hvo
  refine ⟨_, (pss_cons (ps_set (i := 3) sc_evening.nd rfl (Or.inl rfl) (pe_me (k := 2) (hr.mono (by decide)) (pv 0) (pa_cons (pe_callB (cr_sum rfl) (by rfl) T.f_sum (by decide +kernel) (pa_cons (pv 1) pa_nil)) pa_nil)))
      (pss_one (ps_ret (pe_tup (pa_cons (pe_callTy call_listN (by rfl) T.f_list (by decide +kernel) (pa_cons (pv 1) pa_nil)) (pa_cons (pv 3) (pa_cons (pe_cl (ok_rounds_of T) (hr.mono (by decide)) (by rfl) T.g_rounds_of (pa_cons (pv 0) (pa_cons (pv 1) (pa_cons (pv 3) (pa_cons (pv 2) (pa_cons (pe_at (pv 0)) pa_nil)))))) pa_nil))))))), ?_⟩
  walk_at "st"
  walk_at "rd"
  refine ⟨_, _, hc.me T s T.m_Land_least_votes, (ok_Land_least_votes T).mono (by decide), ?_⟩
  walk_at "rd"
  refine rd_sum (s.seq hlv) ?_
  walk_at "rd"
  have es : n.l.sum = n.sum := by
    show n.a + (n.b + (n.i + 0)) = n.a + n.b + n.i
    omega
  have sum0 : 0 ≤ n.sum := by have := nok.a0; have := nok.b0; have := nok.i0; unfold Vt.sum; omega
  rw [es]
  refine ⟨F, v, c.ht, c.hb, n.sum, rfl, s, .inr ⟨c, hc, rfl, rfl⟩, sum0, nok.m, fun H1 s1 => ?_⟩
  have x1 : Xt F H F H1 := Xt.of s s1
  walk_at "rd"
  refine rd_listL (x1.sl hlv) fun l2 hl2 => ?_
  have x2 := x1.new (o := .lst (n.l.map .int)) hl2
  walk_at "rd"
  refine hc.evened T x2.fH ?_
  walk_at "rd"
  refine ⟨_, v, .ref lv, ha, _, c, n, i0, i1, rfl, x2.sub, x2.mono hc, x2.mono hvo, x2.mono hha, ha0, ha1, hb0, hb1, fun u F3 H3 x3 hu => ?_⟩
  walk_at "rd"
  refine ⟨szl (by simp), fun pt hpt => ?_⟩
  have x4 := (x2.trans x3).new (o := .tup [.ref l2, .int (want c.ht c.hb n.sum), u]) hpt
  refine q _ _ _ x4 ⟨pt, _, _, u, rfl, SqT.of upd_same, sm_mo (same_new (x3.sub.free hpt)) hu⟩
/-! ### ballots_of, passes_by, unseen_in -/
def vsum (ns : List Vt) : Int := (ns.map Vt.sum).sum
def sp_ballots_of (K : PySem.W.Frag) : Sp := fun vs H Q _ => ∃ (F : Hp) (v : V) (ns : List Vt), vs = [v] ∧ Same F H ∧ LstR K (SheetR K) F v ns ∧ ns.length ≤ 100 ∧ ∀ H', Same H H' → Q (.int (vsum ns)) H'
theorem ok_ballots_of (T : Txt K mg) : Ok P w K mg base 2 (He.ga K "ballots_of") (sp_ballots_of K) := by
  refine Ok.of T.fd_ballots_of Txt.b_ballots_of sc_ballots_of (fun vs H Q E h => ?_) fun cdv A outer s H vs Q E hr h => ?_
  · obtain ⟨_, _, _, rfl, _⟩ := h
    rfl
  obtain ⟨F, v, ns, rfl, s, hv, hl, q⟩ := h
  refine ⟨_, (pss_one (ps_ret (pe_callB (cr_sum rfl) (by rfl) T.f_sum (by decide +kernel) (pa_cons (pe_lc rfl sc_ballots_of.nd (pi_list (pv 0)) (blkOk_by (own := [("sheet", 1)]) (N := ["sheets", "sheet"]) (sc := (defScope s_ballots_of)) (by decide +kernel)) (fun _ _ _ _ _ => (pg_name (i := 1) sc_ballots_of.nd rfl (Or.inl rfl))) (fun _ _ _ _ _ => pts_nil) (fun _ _ _ _ _ => (pe_cl (ok_ballots_in T) (hr.mono (by decide)) (by rfl) T.g_ballots_in (pa_cons (pv 1) pa_nil)))) pa_nil)))), ?_⟩
  walk_at "st"
  walk_at "rd"
  refine lc_list IntR (fun _ => true) Vt.sum hv s (Nat.le_trans hl (by decide)) (fun i y F1 H2 v hy x hv Z Z0 hZ _ => ?_) fun D F1 H2 x hD => ?_
  · walk_at "wp"
    walk_at "rd"
    refine ⟨rfl, ?_⟩
    walk_at "rd"
    exact ⟨F1, v, y, rfl, x.sub, hv, fun H3 s3 => hZ rfl _ _ _ (Xt.of x.sub s3) rfl⟩
  · obtain ⟨l, e, hl⟩ := ilst_to hD
    cases e
    walk_at "rd"
    refine rd_sum (x.sub.seq hl) ?_
    rw [filtT]
    exact q _ x.hh
def pas (f : Bool) (st v h v' h' : Int) (a b : Int) : Bool := if low v (1 + st * h) = low v' (1 + st * h') then decide (ixl f a < ixl f b) else decide ((low v' (1 + st * h')).1 * (low v (1 + st * h)).2 < (low v (1 + st * h)).1 * (low v' (1 + st * h')).2)
theorem low_bd {st v h : Int} (hst : st = 1 ∨ st = 2) (h0 : 0 ≤ h) (h1 : h ≤ 1000) : PB (low v (1 + st * h)) := by
  have := pb_mk (w := v) (v := v) hst h0 h1
  exact this _ (by unfold mk; rw [if_neg (Int.lt_irrefl v)])
def sp_passes_by (K : PySem.W.Frag) : Sp := fun vs H Q _ => ∃ (F : Hp) (v o1 o2 hs : V) (f : Bool) (st m n m' n' a b : Int), vs = [v, o1, o2, hs] ∧ Same F H ∧ WayR K F v f st ∧ TupI K F o1 [m, n] ∧ TupI K F o2 [m', n'] ∧ TupI K F hs [a, b] ∧ 0 ≤ n ∧ n ≤ 1000 ∧ 0 ≤ n' ∧ n' ≤ 1000 ∧ (a = 0 ∨ a = 1) ∧ (b = 0 ∨ b = 1) ∧
  ∀ H', Same H H' → Q (.bl (pas f st m n m' n' a b)) H'
theorem ok_passes_by (T : Txt K mg) : Ok P w K mg base 4 (He.ga K "passes_by") (sp_passes_by K) := by
  refine Ok.of T.fd_passes_by Txt.b_passes_by sc_passes_by (fun vs H Q E h => ?_) fun cdv A outer s H vs Q E hr h => ?_
  · obtain ⟨_, _, _, _, _, _, _, _, _, _, _, _, _, rfl, _⟩ := h
    rfl
  obtain ⟨F, v, o1, o2, hs, f, st, m, n, m', n', a, b, rfl, s, hw, ⟨p1, rfl, h1⟩, ⟨p2, rfl, h2⟩, ⟨p3, rfl, h3⟩, n0, n1, k0, k1, ha, hb, q⟩ := h
  refine ⟨_, (pss_cons (ps_set (i := 4) sc_passes_by.nd rfl (Or.inl rfl) (pe_me (k := 3) (hr.mono (by decide)) (pv 0) (pa_cons (pe_ix ix_seq (pv 1) pe_int (fun _ _ => rfl)) (pa_cons (pe_ix ix_seq (pv 1) pe_int (fun _ _ => rfl)) pa_nil))))
      (pss_cons (ps_set (i := 5) sc_passes_by.nd rfl (Or.inl rfl) (pe_me (k := 3) (hr.mono (by decide)) (pv 0) (pa_cons (pe_ix ix_seq (pv 2) pe_int (fun _ _ => rfl)) (pa_cons (pe_ix ix_seq (pv 2) pe_int (fun _ _ => rfl)) pa_nil))))
      (pss_cons (ps_if (pt_cmpR (op_eq2 hr) (pv 4) (pv 5) (nomark _)) (pss_one (ps_ret (pe_me (k := 1) (hr.mono (by decide)) (pv 0) (pa_cons (pe_ix ix_seq (pv 3) pe_int (fun _ _ => rfl)) (pa_cons (pe_ix ix_seq (pv 3) pe_int (fun _ _ => rfl)) pa_nil))))) pss_nil)
      (pss_one (ps_ret (pe_cl (ok_under T) (hr.mono (by decide)) (by rfl) T.g_under (pa_cons (pv 5) (pa_cons (pv 4) pa_nil)))))))), ?_⟩
  walk_at "st"
  walk_at "rd"
  refine hw.go_mark T s (by decide) ?_
  walk_at "rd"
  refine rd_ixT (sm_t s h1) rfl ?_
  walk_at "rd"
  refine rd_ixT (sm_t s h1) rfl ?_
  walk_at "rd"
  refine ⟨v, F, f, st, m, n, rfl, s, hw, n0, n1, fun u1 F1 H1 x1 hu1 => ?_⟩
  walk_at "rd"
  refine (hw.mono x1.ff).go_mark T x1.sub (by decide) ?_
  walk_at "rd"
  refine rd_ixT (x1.stt h2) rfl ?_
  walk_at "rd"
  refine rd_ixT (x1.stt h2) rfl ?_
  walk_at "rd"
  refine ⟨v, F1, f, st, m', n', rfl, x1.sub, hw.mono x1.ff, k0, k1, fun u2 F2 H2 x2 hu2 => ?_⟩
  have x12 := x1.trans x2
  walk_at "rd"
  refine rd_eqD dat_tupI2 (by decide) (tup2_of (sm_mo x2.fH hu1)) (tup2_of (sm_mo x2.sub hu2)) ?_
  walk_at "rd"
  unfold pas at q
  refine ifD (fun c => ?_) fun c => ?_
  · walk_at "rd"
    refine (hw.mono x12.ff).go_ahead T x12.sub (by decide) ?_
    walk_at "rd"
    refine rd_ixT (x12.stt h3) rfl ?_
    walk_at "rd"
    refine rd_ixT (x12.stt h3) rfl ?_
    walk_at "rd"
    refine ⟨v, F2, f, st, a, b, rfl, x12.sub, hw.mono x12.ff, ha, hb, ?_⟩
    rw [if_pos (by exact c)] at q
    exact q _ x12.hh
  · walk_at "rd"
    refine ⟨u2, u1, _, _, _, _, rfl, sm_mo x2.sub hu2, sm_mo x2.fH hu1, low_bd hw.st k0 k1, low_bd hw.st n0 n1, ?_⟩
    rw [if_neg (by exact c)] at q
    exact q _ x12.hh
def sp_unseen_in (K : PySem.W.Frag) : Sp := fun vs H Q _ => ∃ (F : Hp) (v1 v2 : V) (ks ss : List Vt), vs = [v1, v2] ∧ Same F H ∧ LstR K (SheetR K) F v1 ks ∧ LstR K (SheetR K) F v2 ss ∧ ks.length ≤ 100 ∧ ∀ u F' H', Xt F H F' H' → ILst K F' u ((ks.zip ss).map fun p => p.1.sum - p.2.sum) → Q u H'
theorem ok_unseen_in (T : Txt K mg) : Ok P w K mg base 2 (He.ga K "unseen_in") (sp_unseen_in K) := by
  refine Ok.of T.fd_unseen_in Txt.b_unseen_in sc_unseen_in (fun vs H Q E h => ?_) fun cdv A outer s H vs Q E hr h => ?_
  · obtain ⟨_, _, _, _, _, rfl, _⟩ := h
    rfl
  obtain ⟨F, v1, v2, ks, ss, rfl, s, h1, h2, hl, q⟩ := h
  refine ⟨_, (pss_one (ps_ret (pe_lc rfl sc_unseen_in.nd (pi_zip (by rfl) T.f_zip (pa_cons (pv 0) (pa_cons (pv 1) pa_nil))) (blkOk_by (own := [("whole", 2), ("part", 3)]) (N := ["known", "seen", "whole", "part"]) (sc := (defScope s_unseen_in)) (by decide +kernel)) (fun _ _ _ _ _ => (pg_tupK (K := K) (n := 2) rfl rfl (pgs_cons (pg_name (i := 2) sc_unseen_in.nd rfl (Or.inl rfl)) (pgs_cons (pg_name (i := 3) sc_unseen_in.nd rfl (Or.inl rfl)) pgs_nil)))) (fun _ _ _ _ _ => pts_nil) (fun _ _ _ _ _ => (pe_op op_sub (pe_cl (ok_ballots_in T) (hr.mono (by decide)) (by rfl) T.g_ballots_in (pa_cons (pv 2) pa_nil)) (pe_cl (ok_ballots_in T) (hr.mono (by decide)) (by rfl) T.g_ballots_in (pa_cons (pv 3) pa_nil))))))), ?_⟩
  walk_at "st"
  walk_at "rd"
  refine lc_zip IntR (fun _ => true) (fun p : Vt × Vt => p.1.sum - p.2.sum) h1 h2 s (Nat.le_trans hl (by decide)) (fun i y z F1 H2 Tp v u hy hz x hv hu nT Z Z0 hZ _ => ?_) fun D F1 H2 x hD => ?_
  · walk_at "wp"
    refine rd_tupG (SqT.of upd_same) rfl ?_
    walk_at "rd"
    refine ⟨rfl, ?_⟩
    walk_at "rd"
    have xt : Xt F1 H2 F1 (upd H2 Tp (.tup [v, u])) := (Xt.refl x.sub).newH nT
    refine ⟨F1, v, y, rfl, xt.sub, hv, fun H3 s3 => ?_⟩
    walk_at "rd"
    refine ⟨F1, u, z, rfl, xt.sub.trans s3, hu, fun H4 s4 => ?_⟩
    walk_at "rd"
    exact hZ rfl _ _ _ (xt.trans (Xt.of xt.sub (s3.trans s4))) rfl
  · walk_at "rd"
    rw [filtT] at hD
    exact q _ _ _ x hD
/-! ### margin_for -/
theorem rd_isi_lists {H F : Hp} {Q : VK} {v : V} {c : Cfg} (T : Txt K mg) (h : IsLists K F v c) (s : Same F H) (q : Q (.bl true) H) : rIsi K [v, .ref (He.ga K "Lists")] H Q := by
  obtain ⟨a, dx, l, hu, rfl, h1, _⟩ := h
  have i := T.ins_Lists
  exact ⟨_, _, _, _, _, rfl, .own _, .base (.ins (s _ _ h1) T.c_Lists i.ha i.hn i.htk i.hm), T.kit_lists, q⟩
def IsMargin (K : PySem.W.Frag) : Hp → V → Cfg → Prop := fun F v c => ∃ a dx u, v = .ref a ∧ F a = some (.ins (He.ga K "ListsMargin") dx [("way", u)]) ∧ IsLists K F u c
instance : Mono (IsMargin K) := ⟨fun s h => by
  obtain ⟨a, dx, u, e, h1, h2⟩ := h
  exact ⟨a, dx, u, e, s _ _ h1, Mono.mono s h2⟩⟩
def sp_Margin_init (K : PySem.W.Frag) : Sp := fun vs H Q _ => ∃ (x dx : Addr) (u : V), vs = [.ref x, u] ∧ H x = some (.ins (He.ga K "ListsMargin") dx []) ∧ Q .non (upd H x (.ins (He.ga K "ListsMargin") dx [("way", u)]))
theorem ok_Margin_init (T : Txt K mg) : Ok P w K mg base 1 (He.ma K (He.ga K "Margin") "__init__") (sp_Margin_init K) := by
  refine Ok.of T.fd_Margin_init Txt.b_Margin_init sc_Margin_init (fun vs H Q E h => ?_) fun cdv A outer s H vs Q E hr h => ?_
  · obtain ⟨_, _, _, rfl, _⟩ := h
    rfl
  obtain ⟨x, dx, u, rfl, hx, q⟩ := h
  refine ⟨_, (pss_one (ps_asg (pv 1) (pg_at (pv 0)))), ?_⟩
  walk_at "st"
  walk_at "rd"
  refine .inl ⟨x, _, dx, [], rfl, hx, T.c_ListsMargin, T.n_ListsMargin_way, by decide, ?_⟩
  exact q
def sp_margin_for (K : PySem.W.Frag) : Sp := fun vs H Q _ => ∃ (F : Hp) (v : V) (c : Cfg), vs = [v] ∧ Same F H ∧ IsLists K F v c ∧ ∀ u F' H', Xt F H F' H' → IsMargin K F' u c → Q u H'
end
end Wp


set_option Elab.async false
set_option linter.all false
set_option maxRecDepth 100000
set_option maxHeartbeats 4000000
namespace Wp
open PySem PySem.Spec PyProof.Rows L2
/-! ### marks compared crosswise -/
def bt (f : Bool) (st v0 h0 v1 h1 : Int) : Bool := decide (v0 * (1 + st * h1) < v1 * (1 + st * h0)) || (decide (v0 * (1 + st * h1) = v1 * (1 + st * h0)) && !f)
theorem low_parts (v d : Int) (hd : 0 < d) : ∃ g : Int, 0 < g ∧ v = g * (low v d).1 ∧ d = g * (low v d).2 ∧ 0 < (low v d).2 := by
  have hg : 0 < Int.gcd v d := Int.gcd_pos_of_ne_zero_right v (by omega)
  have h1 : (Int.gcd v d : Int) * (v / (Int.gcd v d : Int)) = v := Int.mul_ediv_cancel' (Int.gcd_dvd_left ..)
  have h2 : (Int.gcd v d : Int) * (d / (Int.gcd v d : Int)) = d := Int.mul_ediv_cancel' (Int.gcd_dvd_right ..)
  refine ⟨(Int.gcd v d : Int), by omega, h1.symm, h2.symm, ?_⟩
  show 0 < d / (Int.gcd v d : Int)
  rcases Int.lt_or_le 0 (d / (Int.gcd v d : Int)) with h | h
  · exact h
  · have : (Int.gcd v d : Int) * (d / (Int.gcd v d : Int)) ≤ 0 := Int.mul_nonpos_of_nonneg_of_nonpos (by omega) h
    omega
theorem low_lt {v0 d0 v1 d1 : Int} (h0 : 0 < d0) (h1 : 0 < d1) : (low v0 d0).1 * (low v1 d1).2 < (low v1 d1).1 * (low v0 d0).2 ↔ v0 * d1 < v1 * d0 := by
  obtain ⟨g, hg, e1, e2, p⟩ := low_parts v0 d0 h0
  obtain ⟨g', hg', e1', e2', p'⟩ := low_parts v1 d1 h1
  generalize (low v0 d0).1 = a at *
  generalize (low v0 d0).2 = b at *
  generalize (low v1 d1).1 = a' at *
  generalize (low v1 d1).2 = b' at *
  rw [e1, e2, e1', e2']
  have hp : 0 < g * g' := Int.mul_pos hg hg'
  have x1 : g * a * (g' * b') = g * g' * (a * b') := by ac_rfl
  have x2 : g' * a' * (g * b) = g * g' * (a' * b) := by ac_rfl
  rw [x1, x2]
  exact (Int.mul_lt_mul_left hp).symm
theorem low_eq {v0 d0 v1 d1 : Int} (p0 : 0 ≤ v0) (p1 : 0 ≤ v1) (h0 : 0 < d0) (h1 : 0 < d1) : low v0 d0 = low v1 d1 ↔ v0 * d1 = v1 * d0 := by
  constructor
  · intro e
    obtain ⟨g, hg, e1, e2, p⟩ := low_parts v0 d0 h0
    obtain ⟨g', hg', e1', e2', p'⟩ := low_parts v1 d1 h1
    rw [← e] at e1' e2'
    generalize (low v0 d0).1 = a at *
    generalize (low v0 d0).2 = b at *
    rw [e1, e2, e1', e2']
    ac_rfl
  · intro e
    obtain ⟨n0, rfl⟩ := Int.eq_ofNat_of_zero_le p0
    obtain ⟨n1, rfl⟩ := Int.eq_ofNat_of_zero_le p1
    obtain ⟨m0, rfl⟩ := Int.eq_ofNat_of_zero_le (Int.le_of_lt h0)
    obtain ⟨m1, rfl⟩ := Int.eq_ofNat_of_zero_le (Int.le_of_lt h1)
    have e : n0 * m1 = n1 * m0 := by exact_mod_cast e
    have hm0 : 0 < m0 := by omega
    have hm1 : 0 < m1 := by omega
    have lowN : ∀ n m : Nat, low (n : Int) (m : Int) = (((n / Nat.gcd n m : Nat) : Int), ((m / Nat.gcd n m : Nat) : Int)) := fun n m => by
      unfold low
      rw [Int.gcd_natCast_natCast, Int.natCast_ediv, Int.natCast_ediv]
    rw [lowN, lowN]
    have g0 : 0 < Nat.gcd n0 m0 := Nat.gcd_pos_of_pos_right _ hm0
    have g1 : 0 < Nat.gcd n1 m1 := Nat.gcd_pos_of_pos_right _ hm1
    have c0 : Nat.Coprime (n0 / Nat.gcd n0 m0) (m0 / Nat.gcd n0 m0) := Nat.coprime_div_gcd_div_gcd g0
    have c1 : Nat.Coprime (n1 / Nat.gcd n1 m1) (m1 / Nat.gcd n1 m1) := Nat.coprime_div_gcd_div_gcd g1
    have a0 : Nat.gcd n0 m0 * (n0 / Nat.gcd n0 m0) = n0 := Nat.mul_div_cancel' (Nat.gcd_dvd_left ..)
    have b0 : Nat.gcd n0 m0 * (m0 / Nat.gcd n0 m0) = m0 := Nat.mul_div_cancel' (Nat.gcd_dvd_right ..)
    have a1 : Nat.gcd n1 m1 * (n1 / Nat.gcd n1 m1) = n1 := Nat.mul_div_cancel' (Nat.gcd_dvd_left ..)
    have b1 : Nat.gcd n1 m1 * (m1 / Nat.gcd n1 m1) = m1 := Nat.mul_div_cancel' (Nat.gcd_dvd_right ..)
    generalize Nat.gcd n0 m0 = g at *
    generalize Nat.gcd n1 m1 = g' at *
    generalize n0 / g = x0 at *
    generalize m0 / g = y0 at *
    generalize n1 / g' = x1 at *
    generalize m1 / g' = y1 at *
    have ex : x0 * y1 = x1 * y0 := by
      rw [← a0, ← b0, ← a1, ← b1] at e
      have z : g * g' * (x0 * y1) = g * g' * (x1 * y0) := by
        calc g * g' * (x0 * y1) = g * x0 * (g' * y1) := by ac_rfl
          _ = g' * x1 * (g * y0) := e
          _ = g * g' * (x1 * y0) := by ac_rfl
      exact Nat.eq_of_mul_eq_mul_left (Nat.mul_pos g0 g1) z
    have d1 : y0 ∣ y1 := c0.symm.dvd_of_dvd_mul_left ⟨x1, by rw [ex]; exact Nat.mul_comm ..⟩
    have d2 : y1 ∣ y0 := c1.symm.dvd_of_dvd_mul_left ⟨x0, by rw [← ex]; exact Nat.mul_comm ..⟩
    have ey : y0 = y1 := Nat.dvd_antisymm d1 d2
    subst ey
    have hy : 0 < y0 := by
      rcases Nat.eq_zero_or_pos y0 with h | h
      · rw [h, Nat.mul_zero] at b0
        omega
      · exact h
    have : x0 = x1 := Nat.eq_of_mul_eq_mul_right hy ex
    rw [this]
theorem pick_both {f : Bool} {st W v0 v1 h0 h1 : Int} (hst : st = 1 ∨ st = 2) (p0 : 0 ≤ v0) (p1 : 0 ≤ v1) (a0 : 0 ≤ h0) (a1 : 0 ≤ h1) (w0 : W ≤ v0) (w1 : W ≤ v1) : pickM f (mk st W v0 h0) (mk st W v1 h1) = some (bt f st v0 h0 v1 h1) := by
  have d0 : 0 < 1 + st * h0 := by rcases hst with rfl | rfl <;> omega
  have d1 : 0 < 1 + st * h1 := by rcases hst with rfl | rfl <;> omega
  unfold mk
  rw [if_neg (by omega), if_neg (by omega)]
  show some _ = some _
  unfold bt
  rw [decide_eq_decide.mpr (low_lt d0 d1), decide_eq_decide.mpr (low_eq p0 p1 d0 d1)]
theorem pick_one0 {f : Bool} {st W v0 v1 h0 h1 : Int} (w0 : W ≤ v0) (w1 : v1 < W) : pickM f (mk st W v0 h0) (mk st W v1 h1) = some false := by
  unfold mk
  rw [if_neg (by omega), if_pos w1]
  rfl
theorem pick_one1 {f : Bool} {st W v0 v1 h0 h1 : Int} (w0 : v0 < W) (w1 : W ≤ v1) : pickM f (mk st W v0 h0) (mk st W v1 h1) = some true := by
  unfold mk
  rw [if_pos w0, if_neg (by omega)]
  rfl
theorem pas10 {f : Bool} {st v h v' h' : Int} (hst : st = 1 ∨ st = 2) (p0 : 0 ≤ v) (p1 : 0 ≤ v') (a0 : 0 ≤ h) (a1 : 0 ≤ h') : pas f st v h v' h' 1 0 = bt f st v' h' v h := by
  have d0 : 0 < 1 + st * h := by rcases hst with rfl | rfl <;> omega
  have d1 : 0 < 1 + st * h' := by rcases hst with rfl | rfl <;> omega
  unfold pas bt
  by_cases e : v * (1 + st * h') = v' * (1 + st * h)
  · rw [if_pos ((low_eq p0 p1 d0 d1).mpr e), decide_eq_false (p := v' * (1 + st * h) < v * (1 + st * h')) (by omega), decide_eq_true e.symm]
    cases f <;> rfl
  · rw [if_neg (fun z => e ((low_eq p0 p1 d0 d1).mp z)), decide_eq_decide.mpr (low_lt d1 d0), decide_eq_false (p := v' * (1 + st * h) = v * (1 + st * h')) (fun z => e z.symm), Bool.false_and, Bool.or_false]
theorem pas01 {f : Bool} {st v h v' h' : Int} (hst : st = 1 ∨ st = 2) (p0 : 0 ≤ v) (p1 : 0 ≤ v') (a0 : 0 ≤ h) (a1 : 0 ≤ h') : pas f st v h v' h' 0 1 = !bt f st v h v' h' := by
  have d0 : 0 < 1 + st * h := by rcases hst with rfl | rfl <;> omega
  have d1 : 0 < 1 + st * h' := by rcases hst with rfl | rfl <;> omega
  unfold pas bt
  by_cases e : v * (1 + st * h') = v' * (1 + st * h)
  · rw [if_pos ((low_eq p0 p1 d0 d1).mpr e), decide_eq_false (p := v * (1 + st * h') < v' * (1 + st * h)) (by omega), decide_eq_true e]
    cases f <;> rfl
  · rw [if_neg (fun z => e ((low_eq p0 p1 d0 d1).mp z)), decide_eq_false (p := v * (1 + st * h') = v' * (1 + st * h)) e, Bool.false_and, Bool.or_false]
    have hlt := low_lt (v0 := v') (v1 := v) d1 d0
    by_cases hc : v' * (1 + st * h) < v * (1 + st * h')
    · rw [decide_eq_true (hlt.mpr hc), decide_eq_false (p := v * (1 + st * h') < v' * (1 + st * h)) (by omega)]
      rfl
    · rw [decide_eq_false (fun z => hc (hlt.mp z)), decide_eq_true (p := v * (1 + st * h') < v' * (1 + st * h)) (by omega)]
      rfl
/-- votes needed, as the law reckons them -/
theorem want_law {ht hb b : Int} (h : HurOk ht hb) : max 1 (0 - (0 - ht * b) / hb) = want ht hb b := by
  have h1 := h.b1
  have h5 := h.b5
  unfold want upI
  generalize ht * b = x
  have hh : hb = 1 ∨ hb = 2 ∨ hb = 3 ∨ hb = 4 ∨ hb = 5 := by omega
  congr 1
  rcases hh with rfl | rfl | rfl | rfl | rfl <;> split <;> omega
end Wp


set_option Elab.async false
set_option linter.all false
set_option maxRecDepth 100000
set_option maxHeartbeats 4000000
namespace Wp
open PySem PySem.Spec PyProof.Rows L2
/-! ### within a comprehension: K told apart -/
section
variable {X : Cx} {K : PySem.W.Frag} {tg l e e2 o : Expr} {tl ta : TE} {t : TA} {p pos apos tpos : Pos} {elts es : List Expr} {kk k : Nat} {m g : Str}
theorem ixK (h : X.K = K) : IxR X (rIx K) := by subst h; exact ix_seq
theorem eq2K {k : Nat} (h : X.K = K) (hr : Room k X.A) : OpR X (compareOp .Eq) (rEq2 K) := by subst h; exact op_eq2 hr
theorem ne2K {k : Nat} (h : X.K = K) (hr : Room k X.A) : OpR X (compareOp .NotEq) (rNe2 K) := by subst h; exact op_ne2 hr
theorem inK (h : X.K = K) : OpR X (compareOp .In) (rIn K false) := by subst h; exact op_in_seq
theorem notInK (h : X.K = K) : OpR X (compareOp .NotIn) (rIn K true) := by subst h; exact op_notIn_seq
theorem lenK (h : X.K = K) : CallR X (.builtin "len") (rLen K) := by subst h; exact call_lenN
theorem listOfK (h : X.K = K) : CallR X (.type "list") (rListOf K) := by subst h; exact call_listN
theorem sumK (h : X.K = K) (hc : X.calm = true) : CallR X (.builtin "sum") (rSum K) := by subst h; exact cr_sum hc
theorem anyK (h : X.K = K) (hc : X.calm = true) : CallR X (.builtin "any") (rAny K) := by subst h; exact cr_any hc
theorem allK (h : X.K = K) (hc : X.calm = true) : CallR X (.builtin "all") (rAll K) := by subst h; exact cr_all hc
theorem isiK (h : X.K = K) : CallR X (.builtin "isinstance") (rIsi K) := by subst h; exact call_isi
theorem isiTK (h : X.K = K) : CallR X (.builtin "isinstance") (rIsiT K) := by subst h; exact call_isiT
theorem listK (h : X.K = K) (hl : PE X l tl) : PI X tg l (iList K tl) := by subst h; exact pi_list hl
theorem enumK (h : X.K = K) (hg : Gl X "enumerate") (hm : X.mg "enumerate" = none) (ha : PA X [e] t) (hs : starEach [e] X.env = [(false, eval e X.env)] := by rfl) :
    PI X (.Tuple elts kk tpos) (.Call (.Name "enumerate" p) [e] [] pos) (iEnum K t) := by subst h; exact pi_enum hg hm ha hs
theorem zipK (h : X.K = K) (hg : Gl X "zip") (hm : X.mg "zip" = none) (ha : PA X [e, e2] t)
    (hs : starEach [e, e2] X.env = (false, eval e X.env) :: starEach [e2] X.env := by rfl) (hpl : (backTo pos (starEach [e2] X.env)).any (·.1) = false := by rfl) :
    PI X (.Tuple elts kk tpos) (.Call (.Name "zip" p) [e, e2] [] pos) (iZip K t) := by subst h; exact pi_zip hg hm ha hs hpl
theorem atK (h : X.K = K) (he : PE X e ta) (hb : attributeBase e g X.env (eval e X.env) = eval e X.env := by rfl) : PE X (.Attribute e g pos) (tAt K ta g) := by subst h; exact pe_at he hb
theorem meK {P : Program} {w : World} {mg : Str → Option Value} {base : Heap} (hP : X.prog = P) (hw : X.w = w) (hK : X.K = K) (hm : X.mg = mg) (hb : X.base = base) {pl : Sem Bool} (hr : Room k X.A) (he : PE X o ta) (ha : PA X (e :: es) t)
    (hst : starEach (e :: es) X.env = (false, eval e X.env) :: starEach es X.env := by rfl) (hpl : (backTo pos (starEach es X.env)).any (·.1) = false := by rfl)
    (ht : eval (.Call (.Attribute o m apos) (e :: es) [] pos) X.env = (do
      let ov ← eval o X.env
      standAt apos.atName
      let (f, first) ← holding [ov] (getMethod ov m pl)
      callWith pos f first (backTo pos (starEach (e :: es) X.env)) (backToKw pos (keywordEach [] X.env))) := by rfl) :
    PE X (.Call (.Attribute o m apos) (e :: es) [] pos) (tMe P w K mg base k m ta t) := by
  subst hP hw hK hm hb
  exact pe_me hr he ha hst hpl ht
end
/-! ### enumerate and zip in a for -/
def FoE (K : PySem.W.Frag) (g : TG) (tb : TS) (D : Ends) (σ : L2.St) (us : List V) (H1 : Hp) : Prop := ∃ a xs, us = [.ref a] ∧ SqL K H1 a xs ∧ ∃ W : Nat → Nat → L2.St → Hp → Prop, (∃ m, W 0 m σ H1) ∧ ∀ i m σ H, W i m σ H →
  ((Ite K a).stop i H ∧ D.nx σ H) ∨ ((Ite K a).go i H ∧ ∃ N : L2.St → Hp → Prop, (∀ σ' H', N σ' H' → ∃ m', m' < m ∧ W (i + 1) m' σ' H') ∧ ∀ x H', (Ite K a).yld i H x H' → g x σ H' fun σ2 H2 => tb { D with nx := N, ct := N, bk := D.nx } σ2 H2)
theorem rd_forE {K : PySem.W.Frag} {ta : TA} {g : TG} {tb : TS} {D : Ends} {σ : L2.St} {H : Hp} (h : ta σ H fun us H1 => FoE K g tb D σ us H1) : tFor (iEnum K ta) g tb D σ H := h
theorem fo_enum {α : Type} {K : PySem.W.Frag} {R : Hp → V → α → Prop} [Mono R] {g : TG} {tb : TS} {D : Ends} {σ : L2.St} {F H : Hp} {x : V} {xs : List α} (Pv : Nat → L2.St → Hp → Hp → Prop) (hL : LstR K R F x xs) (h0 : Pv 0 σ F H) (hF : ∀ i σ F1 H1, Pv i σ F1 H1 → Same F F1 ∧ Same F1 H1)
    (hs : ∀ (i : Nat) y v Tp σ F1 H1, xs[i]? = some y → R F1 v y → Pv i σ F1 H1 → H1 Tp = none → g (.ref Tp) σ (upd H1 Tp (.tup [.int (i : Nat), v])) fun σ2 H2 => tb { D with nx := fun σ H => ∃ F, Pv (i + 1) σ F H, ct := fun σ H => ∃ F, Pv (i + 1) σ F H, bk := D.nx } σ2 H2)
    (hd : ∀ σ F1 H1, Pv xs.length σ F1 H1 → D.nx σ H1) : FoE K g tb D σ [x] H := by
  obtain ⟨a, ws, rfl, hq, ha⟩ := hL
  have sq : ∀ i σ F1 H1, Pv i σ F1 H1 → SqL K H1 a ws := fun i σ F1 H1 p => ((hF i σ F1 H1 p).1.trans (hF i σ F1 H1 p).2).seq hq
  refine ⟨a, ws, rfl, sq _ _ _ _ h0, fun i m σ H => m = ws.length - i ∧ i ≤ ws.length ∧ ∃ F, Pv i σ F H, ⟨ws.length, by simp, Nat.zero_le _, F, h0⟩, ?_⟩
  rintro i m σ H ⟨rfl, hi, F1, p⟩
  have q := sq i σ F1 H p
  by_cases hlt : i < ws.length
  · refine .inr ⟨⟨ws, ws[i], q, by simp [hlt]⟩, fun σ H => ∃ F, Pv (i + 1) σ F H, fun σ' H' p' => ⟨ws.length - (i + 1), by omega, rfl, hlt, p'⟩, fun x H' y => ?_⟩
    obtain ⟨Tp, v, rfl, hT, rfl, hv⟩ := y
    obtain ⟨y, hy, r⟩ := ha.getL (hv ws q)
    exact hs i y v Tp σ F1 H hy (Mono.mono (hF _ _ _ _ p).1 r) p hT
  · have e : i = ws.length := by omega
    subst e
    refine .inl ⟨⟨ws, q, Nat.le_refl _⟩, hd σ F1 H ?_⟩
    rw [← ha.length]
    exact p
def FoZ (K : PySem.W.Frag) (g : TG) (tb : TS) (D : Ends) (σ : L2.St) (us : List V) (H1 : Hp) : Prop := ∃ a b xs ys, us = [.ref a, .ref b] ∧ SqL K H1 a xs ∧ SqL K H1 b ys ∧ ∃ W : Nat → Nat → L2.St → Hp → Prop, (∃ m, W 0 m σ H1) ∧ ∀ i m σ H, W i m σ H →
  ((Itz K a b).stop i H ∧ D.nx σ H) ∨ ((Itz K a b).go i H ∧ ∃ N : L2.St → Hp → Prop, (∀ σ' H', N σ' H' → ∃ m', m' < m ∧ W (i + 1) m' σ' H') ∧ ∀ x H', (Itz K a b).yld i H x H' → g x σ H' fun σ2 H2 => tb { D with nx := N, ct := N, bk := D.nx } σ2 H2)
theorem rd_forZ {K : PySem.W.Frag} {ta : TA} {g : TG} {tb : TS} {D : Ends} {σ : L2.St} {H : Hp} (h : ta σ H fun us H1 => FoZ K g tb D σ us H1) : tFor (iZip K ta) g tb D σ H := h
theorem fo_zip {α β : Type} {K : PySem.W.Frag} {R : Hp → V → α → Prop} [Mono R] {R' : Hp → V → β → Prop} [Mono R'] {g : TG} {tb : TS} {D : Ends} {σ : L2.St} {F H : Hp} {x x' : V} {xs : List α} {ys : List β} (Pv : Nat → L2.St → Hp → Hp → Prop) (hL : LstR K R F x xs) (hL' : LstR K R' F x' ys) (hlen : xs.length = ys.length) (h0 : Pv 0 σ F H) (hF : ∀ i σ F1 H1, Pv i σ F1 H1 → Same F F1 ∧ Same F1 H1)
    (hs : ∀ (i : Nat) y z v u Tp σ F1 H1, xs[i]? = some y → ys[i]? = some z → R F1 v y → R' F1 u z → Pv i σ F1 H1 → H1 Tp = none → g (.ref Tp) σ (upd H1 Tp (.tup [v, u])) fun σ2 H2 => tb { D with nx := fun σ H => ∃ F, Pv (i + 1) σ F H, ct := fun σ H => ∃ F, Pv (i + 1) σ F H, bk := D.nx } σ2 H2)
    (hd : ∀ σ F1 H1, Pv xs.length σ F1 H1 → D.nx σ H1) : FoZ K g tb D σ [x, x'] H := by
  obtain ⟨a, ws, rfl, hq, ha⟩ := hL
  obtain ⟨b, us, rfl, hq', ha'⟩ := hL'
  have sq : ∀ i σ F1 H1, Pv i σ F1 H1 → SqL K H1 a ws := fun i σ F1 H1 p => ((hF i σ F1 H1 p).1.trans (hF i σ F1 H1 p).2).seq hq
  have sq' : ∀ i σ F1 H1, Pv i σ F1 H1 → SqL K H1 b us := fun i σ F1 H1 p => ((hF i σ F1 H1 p).1.trans (hF i σ F1 H1 p).2).seq hq'
  have e1 := ha.length
  have e2 := ha'.length
  refine ⟨a, b, ws, us, rfl, sq _ _ _ _ h0, sq' _ _ _ _ h0, fun i m σ H => m = ws.length - i ∧ i ≤ ws.length ∧ ∃ F, Pv i σ F H, ⟨ws.length, by simp, Nat.zero_le _, F, h0⟩, ?_⟩
  rintro i m σ H ⟨rfl, hi, F1, p⟩
  have q := sq i σ F1 H p
  have q' := sq' i σ F1 H p
  by_cases hlt : i < ws.length
  · have hlt2 : i < us.length := by omega
    refine .inr ⟨⟨ws, us, ws[i], us[i], q, q', by simp [hlt], by simp [hlt2]⟩, fun σ H => ∃ F, Pv (i + 1) σ F H, fun σ' H' p' => ⟨ws.length - (i + 1), by omega, rfl, hlt, p'⟩, fun x H' y => ?_⟩
    obtain ⟨Tp, v, u, rfl, hT, rfl, hv, hu⟩ := y
    obtain ⟨y, hy, r⟩ := ha.getL (hv ws q)
    obtain ⟨z, hz, r'⟩ := ha'.getL (hu us q')
    exact hs i y z v u Tp σ F1 H hy hz (Mono.mono (hF _ _ _ _ p).1 r) (Mono.mono (hF _ _ _ _ p).1 r') p hT
  · have e : i = ws.length := by omega
    subst e
    refine .inl ⟨⟨ws, us, q, q', .inl (Nat.le_refl _)⟩, hd σ F1 H ?_⟩
    rw [← e1]
    exact p
/-! ### things in the making -/
theorem Xt.made {F H F1 H1 : Hp} {x dx : Addr} {o u : HO} (t : Xt F H F1 H1) (hx : H1 x = none) (hd : H1 dx = none) (hne : dx ≠ x) : Xt F H F1 (upd (upd H1 dx u) x o) :=
  (t.newH hd).newH (by rw [upd_ne (Ne.symm hne)]; exact hx)
structure Mkg (F H F1 H1 : Hp) (p : Addr) (o : HO) : Prop where
  x : Xt F H F1 H1
  f : F1 p = none
  h : H p = none
  e : H1 p = some o
section
variable {F H F1 H1 F2 H2 : Hp} {p : Addr} {o o' : HO}
theorem Mkg.start {dx : Addr} {u : HO} (t : Xt F H F1 H1) (hx : H1 p = none) (hd : H1 dx = none) (hne : dx ≠ p) : Mkg F H F1 (upd (upd H1 dx u) p o) p o := ⟨t.made hx hd hne, t.sub.free hx, t.hh.free hx, upd_same⟩
theorem Mkg.step (m : Mkg F H F1 H1 p o) (t : Xt F1 H1 F2 H2) (hn : ∀ xs, o ≠ .tup xs := by intro xs h; cases h) : Mkg F H F2 H2 p o := ⟨m.x.trans t, t.frO m.f m.e hn, m.h, t.hh _ _ m.e⟩
theorem Mkg.set (m : Mkg F H F1 H1 p o) : Mkg F H F1 (upd H1 p o') p o' := ⟨m.x.put m.h m.f, m.f, m.h, upd_same⟩
theorem Mkg.fin (m : Mkg F H F1 H1 p o) : Xt F H (upd F1 p o) H1 := m.x.pub m.h m.f m.e
theorem Mkg.ff (m : Mkg F H F1 H1 p o) : Same F1 (upd F1 p o) := same_new m.f
end
structure Mks (F H F1 H1 : Hp) (p C dx : Addr) (vs : List (Option V)) : Prop where
  x : Xt F H F1 H1
  f : F1 p = none
  fd : F1 dx = none
  h : H p = none
  hd : H dx = none
  ne : dx ≠ p
  ed : ∃ o, H1 dx = some o ∧ ∀ xs, o ≠ .tup xs
  e : SlX.Slt H1 p C dx vs
section
variable {F H F1 H1 F2 H2 : Hp} {p C dx : Addr} {vs : List (Option V)}
theorem Mks.start (t : Xt F H F1 H1) (hx : H1 p = none) (hd : H1 dx = none) (hne : dx ≠ p) : Mks F H F1 (upd (upd H1 dx (.own p)) p (.ins C dx [])) p C dx [] :=
  ⟨t.made hx hd hne, t.sub.free hx, t.sub.free hd, t.hh.free hx, t.hh.free hd, hne, ⟨.own p, by rw [upd_ne hne, upd_same], fun _ z => nomatch z⟩, .inl ⟨upd_same, rfl⟩⟩
theorem slt_some {H : Hp} (h : SlX.Slt H p C dx vs) : ∃ o, H p = some o ∧ ∀ xs, o ≠ .tup xs := by
  rcases h with ⟨h, _⟩ | ⟨h, _⟩
  · exact ⟨_, h, fun _ z => nomatch z⟩
  · exact ⟨_, h, fun _ z => by
      unfold SlX.SlO at z
      cases z⟩
theorem Mks.step (m : Mks F H F1 H1 p C dx vs) (t : Xt F1 H1 F2 H2) : Mks F H F2 H2 p C dx vs :=
  ⟨m.x.trans t, by
    obtain ⟨o, e, n⟩ := slt_some m.e
    exact t.frO m.f e n, by
    obtain ⟨o, e, n⟩ := m.ed
    exact t.frO m.fd e n, m.h, m.hd, m.ne, by
    obtain ⟨o, e, n⟩ := m.ed
    exact ⟨o, t.hh _ _ e, n⟩, slt_mono t.hh m.e⟩
theorem Mks.set {i : Nat} {y : V} (m : Mks F H F1 H1 p C dx vs) : Mks F H F1 (SlX.slH H1 p C dx (SlX.putS i y vs)) p C dx (SlX.putS i y vs) :=
  ⟨(m.x.put m.hd m.fd).put m.h m.f, m.f, m.fd, m.h, m.hd, m.ne, ⟨.xd [], by unfold SlX.slH; rw [upd_ne m.ne, upd_same], fun _ z => nomatch z⟩, SlX.slH_slt m.ne⟩
theorem Mks.fin (m : Mks F H F1 H1 p C dx vs) (hv : vs ≠ []) : ∃ F', Xt F H F' H1 ∧ Same F1 F' ∧ SlX.Slt F' p C dx vs := by
  rcases m.e with ⟨_, e⟩ | ⟨e1, e2⟩
  · exact absurd e hv
  · have hf : (upd F1 dx (.xd [])) p = none := by rw [upd_ne (Ne.symm m.ne)]; exact m.f
    refine ⟨upd (upd F1 dx (.xd [])) p (SlX.SlO p C dx vs), (m.x.pub m.hd m.fd e2).pub m.h hf e1, (same_new m.fd).trans (same_new hf), .inr ⟨upd_same, by rw [upd_ne m.ne, upd_same]⟩⟩
end
end Wp


set_option Elab.async false
set_option linter.all false
set_option maxRecDepth 100000
set_option maxHeartbeats 4000000
namespace Wp
open PySem PySem.Spec PyProof.Rows L2
local macro_rules | `(tactic| walk_at "rd") => `(tactic| repeat (first
  | ((with_reducible apply rd_var); · exact rfl)
  | with_reducible refine rd_c ?_ | with_reducible refine rd_op ?_ | with_reducible refine rd_un ?_ | with_reducible refine rd_test ?_ | with_reducible refine rd_B ?_ | with_reducible refine rd_bl ?_
  | with_reducible refine rd_and ?_ | with_reducible refine rd_or ?_ | with_reducible refine rd_not ?_ | with_reducible refine rd_andV ?_ | with_reducible refine rd_orV ?_ | with_reducible refine rd_notV ?_ | with_reducible refine rd_ifE ?_
  | with_reducible refine rd_seq ?_ | with_reducible refine rd_asg ?_ | ((with_reducible apply rd_name); · (simp only [List.set_cons_zero, List.set_cons_succ]; exact rfl)) | with_reducible refine rd_ret ?_ | with_reducible refine rd_drop ?_ | with_reducible refine rd_if ?_ | with_reducible refine rd_next ?_ | with_reducible refine rd_break ?_ | with_reducible refine rd_cont ?_
  | with_reducible refine rd_cl ?_ | with_reducible refine rd_cb ?_ | with_reducible refine rd_mk ?_ | with_reducible refine rd_cons ?_ | with_reducible refine rd_nil ?_ | with_reducible refine rd_tup ?_ | with_reducible refine rd_lst ?_ | with_reducible refine rd_at ?_ | with_reducible refine rd_gAt ?_
  | with_reducible refine rd_isN ?_ | with_reducible refine rd_notN ?_ | with_reducible refine rd_abs ?_ | with_reducible refine rd_max ?_ | with_reducible refine rd_int ?_ | with_reducible refine rd_intB ?_ | with_reducible refine rd_consG ?_ | with_reducible refine rd_nilG ?_ | with_reducible refine rd_ipI ?_ | ((with_reducible apply rd_aug); · exact rfl)
  | with_reducible refine rd_par ?_ | with_reducible refine rd_par3 ?_ | ((with_reducible apply rd_parQ); · (simp only [List.set_cons_zero, List.set_cons_succ]; exact rfl)) | ((with_reducible apply rd_par3Q); · (simp only [List.set_cons_zero, List.set_cons_succ]; exact rfl))
  | with_reducible refine rd_yes ?_ | with_reducible refine rd_chain ?_ | with_reducible refine rd_bm ?_ | with_reducible refine rd_bm0 ?_ | with_reducible refine rd_me ?_ | with_reducible refine rd_augS ?_ | with_reducible refine rd_subG ?_ | with_reducible refine rd_forR ?_ | with_reducible refine rd_sl ?_ | with_reducible refine rd_part ?_ | with_reducible refine rd_partQ ?_ | with_reducible refine rd_noPart ?_ | with_reducible refine rd_lstRg ?_ | with_reducible refine rd_forL ?_ | with_reducible refine rd_forE ?_ | with_reducible refine rd_forZ ?_ | with_reducible refine rd_lcL ?_ | with_reducible refine rd_lcR ?_ | with_reducible refine rd_lcE ?_ | with_reducible refine rd_lcZ ?_ | with_reducible refine rd_while ?_
  | with_reducible refine iteT ?_ | with_reducible refine iteF ?_ | with_reducible refine ifNotT ?_ | with_reducible refine ifNotF ?_ | with_reducible refine rd_I0 ?_ | with_reducible refine rd_U ?_ | with_reducible refine rd_add ?_ | with_reducible refine rd_eqI ?_ | with_reducible refine rd_neI ?_ | with_reducible refine rd_eqB ?_))
local macro_rules | `(tactic| walk_at "st") => `(tactic| (intro σ hσ; simp only [L2.start, List.map_cons, List.map_nil, List.length_cons, List.length_nil, List.reduceReplicate, List.replicate_zero, List.append_nil, Nat.reduceAdd, Nat.reduceSub, List.cons_append, List.nil_append] at hσ; subst hσ; try dsimp only [cxOf, Cx.nox, Cx.wish]))
local macro_rules | `(tactic| walk_at "wp") => `(tactic| (simp only [List.map_cons, List.map_nil, wipe, List.set_cons_zero, List.set_cons_succ]))
section
variable {P : Program} {w : World} {K : PySem.W.Frag} {mg : Str → Option Value} {base : Heap}
/-! ### margin_for -/
theorem Txt.kM (T : Txt K mg) : Mk K (He.ga K "ListsMargin") (He.ma K (He.ga K "Margin") "__init__") := by
  have h := T.k_ListsMargin
  have m := T.m_ListsMargin_init
  have e : He.ma K (He.ga K "ListsMargin") "__init__" = He.ma K (He.ga K "Margin") "__init__" := by
    have e := h.init.symm.trans m.at_
    exact Value.ref.inj (Option.some.inj (Option.some.inj e))
  rw [← e]
  exact h
theorem ok_margin_for (T : Txt K mg) : Ok P w K mg base 3 (He.ga K "margin_for") (sp_margin_for K) := by
  refine Ok.of T.fd_margin_for Txt.b_margin_for sc_margin_for (fun vs H Q E h => ?_) fun cdv A outer s H vs Q E hr h => ?_
  · obtain ⟨_, _, _, rfl, _⟩ := h
    rfl
  obtain ⟨F, v, c, rfl, s, hc, q⟩ := h
  refine ⟨_, (pss_one (ps_ret (pe_ifExp (pt_val (pe_callB call_isi (by rfl) T.f_isinstance (by decide +kernel) (pa_cons (pv 0) (pa_cons (pe_glob (v := .ref (He.ga K "Lists")) (by rfl) T.g_Lists rfl) pa_nil)))) (pe_mk T.kM (ok_Margin_init T) (hr.mono (by decide)) (by rfl) T.g_ListsMargin (pa_cons (pv 0) pa_nil)) pe_never))), ?_⟩
  walk_at "st"
  walk_at "rd"
  refine rd_isi_lists T hc s ?_
  walk_at "rd"
  intro x dx hx hd hne
  have m := Mkg.start (o := .ins (He.ga K "ListsMargin") dx []) (u := .own x) (Xt.refl s) hx hd hne
  refine ⟨x, dx, v, rfl, upd_same, rfl, ?_⟩
  have m := m.set (o' := .ins (He.ga K "ListsMargin") dx [("way", v)])
  exact q _ _ _ m.fin ⟨x, dx, v, rfl, upd_same, sm_mo m.ff hc⟩
theorem ifG {p : Prop} [Decidable p] {A G : Prop} (hG : G) (h : p → G → A) : if decide p = true then A else G := ifD (fun y => h y hG) fun _ => hG
/-! ### what is held -/
def sel (p : Int × Int) (i : Nat) : Int := if i = 0 then p.1 else p.2
def badB (f : Bool) (st W : Int) (v : Int × Int) (u : Int) (e s : Int × Int) (b : Nat) : Bool :=
  decide (0 < sel e b) && (decide (sel v b < W) || (decide (W ≤ sel v (1 - b) + u) && pas f st (sel v (1 - b) + u) (sel s (1 - b)) (sel v b) (sel s b - 1) (1 - b : Nat) (b : Nat)))
def coreH (f : Bool) (st W : Int) (v : Int × Int) (u : Int) (e s : Int × Int) : Bool := !badB f st W v u e s 0 && !badB f st W v u e s 1
def noneC (W : Int) (v : Int × Int) (u : Int) : Bool := decide (v.1 + u < W) && decide (v.2 + u < W)
def heldA (c : Cfg) (seen : Vt) (u : Int) (known : Vt) : Bool :=
  if u = 0 then true else if (outA c known).1 + (outA c known).2 = 0 then noneC (want c.ht c.hb known.sum) (seen.a, seen.b) u else coreH c.f c.st (want c.ht c.hb known.sum) (seen.a, seen.b) u (outA c known) (outA c known)
def couldL (W : Int) (v : Int × Int) (u : Int) : List Int := ((List.range 2).filter fun i => decide (W ≤ sel v i + u)).map fun i : Nat => (i : Int)
theorem couldL_nil (W : Int) (v : Int × Int) (u : Int) : decide (couldL W v u = []) = noneC W v u := by
  unfold couldL noneC
  rw [show List.range 2 = [0, 1] from rfl]
  simp only [List.filter_cons, List.filter_nil, sel]
  by_cases h1 : W ≤ v.1 + u <;> by_cases h2 : W ≤ v.2 + u
  · have : ¬ v.1 + u < W := by omega
    simp [h1, h2, this]
  · have : ¬ v.1 + u < W := by omega
    simp [h1, h2, this]
  · have : ¬ v.2 + u < W := by omega
    simp [h1, h2, this]
  · have : v.1 + u < W := by omega
    have : v.2 + u < W := by omega
    simp [h1, h2, *]
theorem couldL_mem {W : Int} {v : Int × Int} {u : Int} {i : Nat} {a : Int} (h : (couldL W v u)[i]? = some a) : ∃ n : Nat, a = n ∧ n < 2 ∧ W ≤ sel v n + u := by
  have h := List.mem_of_getElem? h
  unfold couldL at h
  obtain ⟨n, hn, rfl⟩ := List.mem_map.mp h
  obtain ⟨h1, h2⟩ := List.mem_filter.mp hn
  exact ⟨n, rfl, List.mem_range.mp h1, of_decide_eq_true h2⟩
theorem couldL_has {W : Int} {v : Int × Int} {u : Int} {n : Nat} (h : n < 2) (h2 : W ≤ sel v n + u) : ∃ i : Nat, (couldL W v u)[i]? = some (n : Int) ∧ i < (couldL W v u).length := by
  have hm : (n : Int) ∈ couldL W v u := List.mem_map.mpr ⟨n, List.mem_filter.mpr ⟨List.mem_range.mpr h, decide_eq_true h2⟩, rfl⟩
  obtain ⟨i, hi, e⟩ := List.getElem_of_mem hm
  exact ⟨i, by rw [List.getElem?_eq_getElem hi, e], hi⟩
theorem couldL_len (W : Int) (v : Int × Int) (u : Int) : (couldL W v u).length ≤ 2 := by
  unfold couldL
  rw [List.length_map]
  exact List.length_filter_le _ _
theorem at_sel {p : Int × Int} {l : List Int} {n : Nat} (h : n < 2) (hl : l.take 2 = [p.1, p.2]) : atI (l.map V.int) (n : Int) = some (.int (sel p n)) := by
  obtain ⟨a, b, l, rfl⟩ : ∃ a b r, l = a :: b :: r := by
    cases l with
    | nil => cases hl
    | cons a l =>
      cases l with
      | nil => cases hl
      | cons b l => exact ⟨a, b, l, rfl⟩
  simp at hl
  obtain ⟨rfl, rfl⟩ := hl
  unfold atI ixN
  rw [if_pos (by omega), if_pos (by simp; omega)]
  have h3 : n = 0 ∨ n = 1 := by omega
  rcases h3 with rfl | rfl
  · rfl
  · rfl
theorem runM_cnt (bs : List Bool) : 0 ≤ (cnt bs).1 ∧ 0 ≤ (cnt bs).2 ∧ (cnt bs).1 + (cnt bs).2 = bs.length := by
  unfold cnt
  refine ⟨Int.natCast_nonneg _, Int.natCast_nonneg _, ?_⟩
  induction bs with
  | nil => rfl
  | cons b bs ih =>
    cases b <;> simp at ih ⊢ <;> omega
theorem outA_bd {c : Cfg} (h : CfgOk c) (v : Vt) : 0 ≤ (outA c v).1 ∧ 0 ≤ (outA c v).2 ∧ (outA c v).1 + (outA c v).2 ≤ 3 := by
  unfold outA
  obtain ⟨h1, h2, h3⟩ := runM_cnt (runM c.f c.st (want c.ht c.hb v.sum) v.a v.b c.S 0 0)
  have := runM_len c.f c.st (want c.ht c.hb v.sum) v.a v.b c.S 0 0
  have := h.s3
  exact ⟨h1, h2, by omega⟩
def sp_heldA (K : PySem.W.Frag) : Sp := fun vs H Q _ => ∃ (F : Hp) (v sn kn : V) (c : Cfg) (seen known : Vt) (u : Int), vs = [v, sn, .int u, kn] ∧ Same F H ∧ IsMargin K F v c ∧ SheetR K F sn seen ∧ SheetR K F kn known ∧ ∀ H', Same H H' → Q (.bl (heldA c seen u known)) H'
theorem ok_ListsMargin_held (T : Txt K mg) : Ok P w K mg base 7 (He.ma K (He.ga K "ListsMargin") "held") (sp_heldA K) := by
  refine Ok.of T.fd_ListsMargin_held Txt.b_ListsMargin_held sc_ListsMargin_held (fun vs H Q E h => ?_) fun cdv A outer s H vs Q E hr h => ?_
  · obtain ⟨_, _, _, _, _, _, _, _, rfl, _⟩ := h
    rfl
  obtain ⟨F, v, sn, kn, c, seen, known, u, rfl, s, ⟨am, dxm, wy, rfl, hm, hc⟩, hsn, hkn, q⟩ := h
  have cok : CfgOk c := by
    obtain ⟨_, _, _, _, _, _, _, _, h⟩ := hc
    exact h
  have sum0 : 0 ≤ known.sum := by have nok := hkn.ok; have := nok.a0; have := nok.b0; have := nok.i0; unfold Vt.sum; omega
  refine ⟨_, (pss_cons (ps_set (i := 4) sc_ListsMargin_held.nd rfl (Or.inl rfl) (pe_at (pv 0)))
      (pss_cons (ps_set (i := 5) sc_ListsMargin_held.nd rfl (Or.inr rfl) (pe_cl (ok_votes_of T) (hr.mono (by decide)) (by rfl) T.g_votes_of (pa_cons (pv 1) (pa_cons (pe_at (pv 4)) pa_nil))))
      (pss_cons (ps_set (i := 6) sc_ListsMargin_held.nd rfl (Or.inr rfl) (pe_me (k := 2) (hr.mono (by decide)) (pv 4) (pa_cons (pe_cl (ok_ballots_in T) (hr.mono (by decide)) (by rfl) T.g_ballots_in (pa_cons (pv 3) pa_nil)) pa_nil)))
      (pss_cons (ps_set (i := 7) sc_ListsMargin_held.nd rfl (Or.inl rfl) (pe_me (k := 6) (hr.mono (by decide)) (pv 4) (pa_cons (pv 3) pa_nil)))
      (pss_cons (ps_setLc (i := 9) rfl sc_ListsMargin_held.nd rfl rfl (sw_true rfl rfl rfl (by decide +kernel)) (pi_range1 (by rfl) T.f_range (pa_cons (pe_at (pv 4)) pa_nil)) (blkOk_by (own := [("a", 8)]) (N := ["self", "seen", "unseen", "known", "way", "votes", "least", "seats", "a", "could", "b", "one"]) (sc := (defScope s_ListsMargin_held)) (by decide +kernel)) (fun _ _ _ _ _ => (pg_name (i := 8) sc_ListsMargin_held.nd rfl (Or.inl rfl))) (fun _ _ _ _ _ => (pts_one (pt_cmpR op_ge (pe_op op_add2 (pe_ix (ixK (K := K) rfl) (pv 5) (pv 8) (fun _ _ => rfl)) (pv 2)) (pv 6) (nomark _)))) (fun _ _ _ _ _ => (pv 8)))
      (pss_cons (ps_if (PW.pt (pw_or (pt_cmpR (op_eq2 hr) (pv 2) pe_int (nomark _)) (pw_or1 (pt_cmpR (op_eq2 hr) (pe_callB (cr_sum rfl) (by rfl) T.f_sum (by decide +kernel) (pa_cons (pv 7) pa_nil)) pe_int (nomark _))))) (pss_one (ps_ret (pe_or (pe_cmpR (op_eq2 hr) (pv 2) pe_int (nomark _)) (pe_one (pe_cmpR (op_eq2 hr) (pv 9) (pe_lst pa_nil) (nomark _)))))) pss_nil)
      (pss_cons (ps_for PassesOwn.never rfl (pi_range1 (by rfl) T.f_range (pa_cons (pe_at (pv 4)) pa_nil)) (pg_name (i := 10) sc_ListsMargin_held.nd rfl (Or.inl rfl)) (pss_cons (ps_if (PW.pt (pw_and (pt_cmpR op_gt (pe_ix ix_seq (pv 7) (pv 10) (fun _ _ => rfl)) pe_int (nomark _)) (pw_and1 (pt_cmpR op_lt (pe_ix ix_seq (pv 5) (pv 10) (fun _ _ => rfl)) (pv 6) (nomark _))))) (pss_one (ps_ret pe_bl)) pss_nil)
      (pss_one (ps_for PassesOwn.never rfl (pi_list (pv 9)) (pg_name (i := 8) sc_ListsMargin_held.nd rfl (Or.inl rfl)) (pss_cons (ps_set (i := 11) sc_ListsMargin_held.nd rfl (Or.inl rfl) (pe_tup (pa_cons (pe_op op_add2 (pe_ix ix_seq (pv 5) (pv 8) (fun _ _ => rfl)) (pv 2)) (pa_cons (pe_ix ix_seq (pv 7) (pv 8) (fun _ _ => rfl)) pa_nil))))
      (pss_one (ps_if (PW.pt (pw_and (pt_cmpR op_gt (pe_ix ix_seq (pv 7) (pv 10) (fun _ _ => rfl)) pe_int (nomark _)) (pw_and (pt_cmpR (op_ne2 hr) (pv 8) (pv 10) (nomark _)) (pw_and1 (pt_val (pe_cl (ok_passes_by T) (hr.mono (by decide)) (by rfl) T.g_passes_by (pa_cons (pv 4) (pa_cons (pv 11) (pa_cons (pe_tup (pa_cons (pe_ix ix_seq (pv 5) (pv 10) (fun _ _ => rfl)) (pa_cons (pe_op op_sub (pe_ix ix_seq (pv 7) (pv 10) (fun _ _ => rfl)) pe_int) pa_nil))) (pa_cons (pe_tup (pa_cons (pv 8) (pa_cons (pv 10) pa_nil))) pa_nil)))))))))) (pss_one (ps_ret pe_bl)) pss_nil)))))))
      (pss_one (ps_ret pe_bl))))))))), ?_⟩
  walk_at "st"
  walk_at "rd"
  refine .inl ⟨am, _, dxm, _, _, rfl, s _ _ hm, T.c_ListsMargin, T.n_ListsMargin_way, rfl, ?_⟩
  walk_at "rd"
  refine hc.hands T s ?_
  walk_at "rd"
  refine ⟨F, sn, seen, rfl, s, hsn, fun vo F1 H1 x1 hvo => ?_⟩
  walk_at "rd"
  refine ⟨_, _, hc.me T x1.fH T.m_Lists_least_votes rfl, (ok_Lists_least_votes T).mono (by decide), ?_⟩
  walk_at "rd"
  refine ⟨F1, kn, known, rfl, x1.sub, x1.mono hkn, fun H2 s2 => ?_⟩
  have x2 : Xt F H F1 H2 := x1.trans (Xt.of x1.sub s2)
  refine ⟨F, wy, c.ht, c.hb, known.sum, rfl, x2.fH, .inl ⟨c, hc, rfl, rfl⟩, sum0, hkn.ok.m, fun H3 s3 => ?_⟩
  have x3 : Xt F H F1 H3 := x2.trans (Xt.of x2.sub s3)
  unfold heldA at q
  generalize hW : want c.ht c.hb known.sum = W at q ⊢
  walk_at "rd"
  refine ⟨_, _, hc.me T x3.fH T.m_Lists_outcome rfl, (ok_Way_outcome T).mono (by decide), ?_⟩
  walk_at "rd"
  refine ⟨F1, wy, kn, c, known, rfl, x3.sub, x3.mono hc, x3.mono hkn, fun se F4 H4 x4 hse => ?_⟩
  obtain ⟨ha0, hb0, hab⟩ := outA_bd cok known
  generalize hS : outA c known = S at q hse ha0 hb0 hab
  have x4 := x3.trans x4
  have hvo : ILst K F4 vo seen.l := sm_mo (by rename_i x4'; exact x4'.ff) hvo
  obtain ⟨lv, rfl, hlv⟩ := ilst_to hvo
  obtain ⟨ls, rfl, hls⟩ := ilst_to hse
  walk_at "rd"
  refine hc.hands T x4.fH ?_
  walk_at "rd"
  refine lc_rng (K := K) (n := 2) IntR (fun i => decide (W ≤ sel (seen.a, seen.b) i + u)) (fun i : Nat => (i : Int)) x4.sub (by decide) (fun i F5 H5 hi x Z Z0 hZ hZ0 => ?_) fun D F5 H5 x5 hD => ?_
  · walk_at "wp"
    walk_at "rd"
    refine ⟨rfl, ?_⟩
    walk_at "rd"
    refine rd_ixL (x.sl hlv) (at_sel (p := (seen.a, seen.b)) hi rfl) ?_
    walk_at "rd"
    by_cases hle : W ≤ sel (seen.a, seen.b) i + u
    · rw [if_pos (decide_eq_true hle)]
      walk_at "rd"
      exact hZ (decide_eq_true hle) _ _ _ (Xt.refl x.sub) rfl
    · rw [if_neg (by simp; omega)]
      exact hZ0 (decide_eq_false hle) _ _ (Xt.refl x.sub)
  have x5 := x4.trans x5
  rename_i x5'
  have hlv := (x5'.ff).seq hlv
  have hls := (x5'.ff).seq hls
  have hco : LstR K IntR F5 (.ref D) (couldL W (seen.a, seen.b) u) := hD
  walk_at "rd"
  have hT : ∀ b : Bool, (if u = 0 then true else if S.1 + S.2 = 0 then noneC W (seen.a, seen.b) u else coreH c.f c.st W (seen.a, seen.b) u S S) = b → ∀ H', Same H5 H' → Q (.bl b) H' := fun b e H' s' => by
    rw [← e]
    exact q _ (x5.hh.trans s')
  refine ifD (fun h0 => ?_) fun h0 => ?_
  · walk_at "rd"
    refine ifT h0 ?_
    exact hT true (if_pos h0) _ (Same.refl _)
  · walk_at "rd"
    refine rd_sum (x5.sub.seq hls) ?_
    walk_at "rd"
    rw [show (I2 S).sum = S.1 + S.2 by show S.1 + (S.2 + 0) = _; omega]
    refine ifD (fun h1 => ?_) fun h1 => ?_
    · walk_at "rd"
      refine ifF h0 ?_
      walk_at "rd"
      refine ⟨szl (by simp), fun pn hpn => ?_⟩
      have x6 := (Xt.refl x5.sub).new (o := .lst []) hpn
      refine rd_eqD dat_int.lst (by decide) (sm_mo x6.fH hco) (y := []) ⟨pn, [], rfl, SqL.of upd_same, .nil⟩ ?_
      rw [couldL_nil]
      exact hT _ (by rw [if_neg h0, if_pos h1]) _ x6.hh
    · walk_at "rd"
      refine hc.hands T x5.fH ?_
      walk_at "rd"
      have hq : ∀ b : Bool, coreH c.f c.st W (seen.a, seen.b) u S S = b → ∀ H', Same H5 H' → Q (.bl b) H' := fun b e => hT b (by rw [if_neg h0, if_neg h1, e])
      refine fo_rng (n := 2) (fun b σ H' => ∃ (y8 y10 y11 : Option V), σ = [some (.ref am), some sn, some (.int u), some kn, some wy, some (.ref lv), some (.int W), some (.ref ls), y8, some (.ref D), y10, y11] ∧ Same H5 H' ∧ ∀ j < b, badB c.f c.st W (seen.a, seen.b) u S S j = false) (by decide)
        ⟨_, _, _, rfl, Same.refl _, fun j hj => absurd hj (Nat.not_lt_zero j)⟩ ?_ ?_
      · rintro b σ H6 hb ⟨y8, y10, y11, rfl, s6, hbad⟩
        have sF : Same F5 H6 := x5.sub.trans s6
        walk_at "rd"
        refine rd_ixL (sF.seq hls) (at_sel (p := S) hb rfl) ?_
        walk_at "rd"
        have fin : ∀ H', Same H5 H' → badB c.f c.st W (seen.a, seen.b) u S S b = true → Q (.bl false) H' := fun H' s' e => hq false (by
          unfold coreH
          have h3 : b = 0 ∨ b = 1 := by omega
          rcases h3 with rfl | rfl <;> rw [e] <;> simp) H' s'
        by_cases hno : 0 < sel S b ∧ sel (seen.a, seen.b) b < W
        · refine ifT hno.1 ?_
          walk_at "rd"
          refine rd_ixL (sF.seq hlv) (at_sel (p := (seen.a, seen.b)) hb rfl) ?_
          walk_at "rd"
          refine ifT hno.2 ?_
          walk_at "rd"
          refine fin _ s6 ?_
          unfold badB
          rw [decide_eq_true hno.1, decide_eq_true hno.2]
          rfl
        · refine ifG ?_ fun d1 hG => ?_
          rotate_left
          · walk_at "rd"
            refine rd_ixL (sF.seq hlv) (at_sel (p := (seen.a, seen.b)) hb rfl) ?_
            walk_at "rd"
            refine ifF (fun z => hno ⟨d1, z⟩) ?_
            exact hG
          walk_at "rd"
          refine fo_list (R := IntR) (F := F5) (fun i σ F1 H' => ∃ (y8 y11 : Option V), σ = [some (.ref am), some sn, some (.int u), some kn, some wy, some (.ref lv), some (.int W), some (.ref ls), y8, some (.ref D), some (.int (b : Nat)), y11] ∧ Xt F5 H5 F1 H' ∧ ∀ j < i, (couldL W (seen.a, seen.b) u)[j]? = some ((1 - b : Nat) : Int) → badB c.f c.st W (seen.a, seen.b) u S S b = false) hco
            ⟨_, _, rfl, Xt.of x5.sub s6, fun j hj => absurd hj (Nat.not_lt_zero j)⟩ (fun i σ F1 H1 ⟨_, _, _, x, _⟩ => ⟨x.ff, x.sub⟩) ?_ ?_
          · rintro i a va σ F7 H7 hy e ⟨y8, y11, rfl, x7, hpre⟩
            obtain rfl : va = .int a := e
            obtain ⟨n, rfl, hn, hcould⟩ := couldL_mem hy
            walk_at "rd"
            refine rd_ixL (x7.sl hlv) (at_sel (p := (seen.a, seen.b)) hn rfl) ?_
            walk_at "rd"
            refine rd_ixL (x7.sl hls) (at_sel (p := S) hn rfl) ?_
            walk_at "rd"
            refine ⟨szl (by simp), fun p1 hp1 => ?_⟩
            have x8 := x7.new (o := .tup [.int (sel (seen.a, seen.b) n + u), .int (sel S n)]) hp1
            walk_at "rd"
            refine rd_ixL (x8.sl hls) (at_sel (p := S) hb rfl) ?_
            walk_at "rd"
            have step : ∀ H' F' (y11 : Option V), Xt F5 H5 F' H' → (n = 1 - b → badB c.f c.st W (seen.a, seen.b) u S S b = false) → ∃ F, ∃ (y8 y11' : Option V), [some (.ref am), some sn, some (.int u), some kn, some wy, some (.ref lv), some (.int W), some (.ref ls), some (.int (n : Int)), some (.ref D), some (.int (b : Nat)), y11] = [some (.ref am), some sn, some (.int u), some kn, some wy, some (.ref lv), some (.int W), some (.ref ls), y8, some (.ref D), some (.int (b : Nat)), y11'] ∧ Xt F5 H5 F H' ∧ ∀ j < i + 1, (couldL W (seen.a, seen.b) u)[j]? = some ((1 - b : Nat) : Int) → badB c.f c.st W (seen.a, seen.b) u S S b = false := by
              intro H' F' y11 x' hx
              refine ⟨F', _, _, rfl, x', fun j hj e => ?_⟩
              by_cases hji : j = i
              · subst hji
                rw [hy] at e
                exact hx (by have := Option.some.inj e; omega)
              · exact hpre j (by omega) e
            refine ifD (fun d1 => ?_) fun d1 => ?_
            · walk_at "rd"
              by_cases d2 : (n : Int) = (b : Int)
              · refine ifNF d2 ?_
                walk_at "rd"
                refine step _ _ _ x8 fun e => ?_
                omega
              · have en : n = 1 - b := by omega
                refine ifNT d2 ?_
                walk_at "rd"
                refine rd_ixL (x8.sl hlv) (at_sel (p := (seen.a, seen.b)) hb rfl) ?_
                walk_at "rd"
                refine rd_ixL (x8.sl hls) (at_sel (p := S) hb rfl) ?_
                walk_at "rd"
                refine ⟨szl (by simp), fun p2 hp2 => ?_⟩
                have x9 := x8.new (o := .tup [.int (sel (seen.a, seen.b) b), .int (sel S b - 1)]) hp2
                walk_at "rd"
                refine ⟨szl (by simp), fun p3 hp3 => ?_⟩
                have x10 := x9.new (o := .tup [.int (n : Int), .int (b : Int)]) hp3
                walk_at "rd"
                have hsb : ∀ i : Nat, 0 ≤ sel S i ∧ sel S i ≤ 3 := fun i => by unfold sel; split <;> omega
                have t1 : SqT K _ p1 [.int (sel (seen.a, seen.b) n + u), .int (sel S n)] := SqT.of ((same_new (o := .tup [.int (n : Int), .int (b : Int)]) (x9.sub.free hp3)) _ _ ((same_new (o := .tup [.int (sel (seen.a, seen.b) b), .int (sel S b - 1)]) (x8.sub.free hp2)) _ _ upd_same))
                have t2 : SqT K _ p2 [.int (sel (seen.a, seen.b) b), .int (sel S b - 1)] := SqT.of ((same_new (o := .tup [.int (n : Int), .int (b : Int)]) (x9.sub.free hp3)) _ _ upd_same)
                refine ⟨_, wy, .ref p1, .ref p2, .ref p3, c.f, c.st, sel (seen.a, seen.b) n + u, sel S n, sel (seen.a, seen.b) b, sel S b - 1, n, b, rfl, x10.sub, .inl ⟨c, sm_mo (x5.ff.trans x10.ff) hc, rfl, rfl⟩, ⟨p1, rfl, t1⟩, ⟨p2, rfl, t2⟩, ⟨p3, rfl, SqT.of upd_same⟩,
                  (hsb n).1, by have := (hsb n).2; omega, by omega, by have := (hsb b).2; omega, by omega, by omega, fun H11 s11 => ?_⟩
                have x11 := x10.trans (Xt.of x10.sub s11)
                walk_at "rd"
                have e : badB c.f c.st W (seen.a, seen.b) u S S b = pas c.f c.st (sel (seen.a, seen.b) n + u) (sel S n) (sel (seen.a, seen.b) b) (sel S b - 1) n b := by
                  unfold badB
                  rw [decide_eq_true d1, decide_eq_false (p := sel (seen.a, seen.b) b < W) (fun z => hno ⟨d1, z⟩), ← en, decide_eq_true hcould]
                  rfl
                generalize hpp : pas c.f c.st (sel (seen.a, seen.b) n + u) (sel S n) (sel (seen.a, seen.b) b) (sel S b - 1) n b = bb at e ⊢
                cases bb with
                | true =>
                  walk_at "rd"
                  exact fin _ x11.hh e
                | false =>
                  walk_at "rd"
                  exact step _ _ _ x11 fun _ => e
            · walk_at "rd"
              refine step _ _ _ x8 fun e => ?_
              unfold badB
              rw [decide_eq_false d1]
              rfl
          · rintro σ F7 H7 ⟨y8, y11, rfl, x7, hpre⟩
            refine ⟨_, _, _, rfl, x7.hh, fun j hj => ?_⟩
            by_cases hjb : j = b
            · subst hjb
              by_cases hcl : W ≤ sel (seen.a, seen.b) (1 - j) + u
              · obtain ⟨i, hi, hil⟩ := couldL_has (n := 1 - j) (by omega) hcl
                exact hpre i hil hi
              · unfold badB
                rw [decide_eq_false hcl]
                by_cases d1 : 0 < sel S j
                · rw [decide_eq_false (p := sel (seen.a, seen.b) j < W) (fun z => hno ⟨d1, z⟩)]
                  simp
                · rw [decide_eq_false d1]
                  rfl
            · exact hbad j (by omega)
      · rintro σ H6 ⟨y8, y10, y11, rfl, s6, hbad⟩
        walk_at "rd"
        refine hq true ?_ _ s6
        unfold coreH
        rw [hbad 0 (by decide), hbad 1 (by decide)]
        rfl
end
end Wp


set_option Elab.async false
set_option linter.all false
set_option maxRecDepth 100000
set_option maxHeartbeats 4000000
namespace Wp
open PySem PySem.Spec PyProof.Rows L2
local macro_rules | `(tactic| walk_at "rd") => `(tactic| repeat (first
  | ((with_reducible apply rd_var); · exact rfl)
  | with_reducible refine rd_c ?_ | with_reducible refine rd_op ?_ | with_reducible refine rd_un ?_ | with_reducible refine rd_test ?_ | with_reducible refine rd_B ?_ | with_reducible refine rd_bl ?_
  | with_reducible refine rd_and ?_ | with_reducible refine rd_or ?_ | with_reducible refine rd_not ?_ | with_reducible refine rd_andV ?_ | with_reducible refine rd_orV ?_ | with_reducible refine rd_notV ?_ | with_reducible refine rd_ifE ?_
  | with_reducible refine rd_seq ?_ | with_reducible refine rd_asg ?_ | ((with_reducible apply rd_name); · (simp only [List.set_cons_zero, List.set_cons_succ]; exact rfl)) | with_reducible refine rd_ret ?_ | with_reducible refine rd_drop ?_ | with_reducible refine rd_if ?_ | with_reducible refine rd_next ?_ | with_reducible refine rd_break ?_ | with_reducible refine rd_cont ?_
  | with_reducible refine rd_cl ?_ | with_reducible refine rd_cb ?_ | with_reducible refine rd_mk ?_ | with_reducible refine rd_cons ?_ | with_reducible refine rd_nil ?_ | with_reducible refine rd_tup ?_ | with_reducible refine rd_lst ?_ | with_reducible refine rd_at ?_ | with_reducible refine rd_gAt ?_
  | with_reducible refine rd_isN ?_ | with_reducible refine rd_notN ?_ | with_reducible refine rd_abs ?_ | with_reducible refine rd_max ?_ | with_reducible refine rd_int ?_ | with_reducible refine rd_intB ?_ | with_reducible refine rd_consG ?_ | with_reducible refine rd_nilG ?_ | with_reducible refine rd_ipI ?_ | ((with_reducible apply rd_aug); · exact rfl)
  | with_reducible refine rd_par ?_ | with_reducible refine rd_par3 ?_ | ((with_reducible apply rd_parQ); · (simp only [List.set_cons_zero, List.set_cons_succ]; exact rfl)) | ((with_reducible apply rd_par3Q); · (simp only [List.set_cons_zero, List.set_cons_succ]; exact rfl))
  | with_reducible refine rd_yes ?_ | with_reducible refine rd_chain ?_ | with_reducible refine rd_bm ?_ | with_reducible refine rd_bm0 ?_ | with_reducible refine rd_me ?_ | with_reducible refine rd_augS ?_ | with_reducible refine rd_subG ?_ | with_reducible refine rd_forR ?_ | with_reducible refine rd_sl ?_ | with_reducible refine rd_part ?_ | with_reducible refine rd_partQ ?_ | with_reducible refine rd_noPart ?_ | with_reducible refine rd_lstRg ?_ | with_reducible refine rd_forL ?_ | with_reducible refine rd_forE ?_ | with_reducible refine rd_forZ ?_ | with_reducible refine rd_lcL ?_ | with_reducible refine rd_lcR ?_ | with_reducible refine rd_lcE ?_ | with_reducible refine rd_lcZ ?_ | with_reducible refine rd_while ?_
  | with_reducible refine iteT ?_ | with_reducible refine iteF ?_ | with_reducible refine ifNotT ?_ | with_reducible refine ifNotF ?_ | with_reducible refine rd_I0 ?_ | with_reducible refine rd_U ?_ | with_reducible refine rd_add ?_ | with_reducible refine rd_eqI ?_ | with_reducible refine rd_neI ?_ | with_reducible refine rd_eqB ?_))
local macro_rules | `(tactic| walk_at "st") => `(tactic| (intro σ hσ; simp only [L2.start, List.map_cons, List.map_nil, List.length_cons, List.length_nil, List.reduceReplicate, List.replicate_zero, List.append_nil, Nat.reduceAdd, Nat.reduceSub, List.cons_append, List.nil_append] at hσ; subst hσ; try dsimp only [cxOf, Cx.nox, Cx.wish]))
local macro_rules | `(tactic| walk_at "wp") => `(tactic| (simp only [List.map_cons, List.map_nil, wipe, List.set_cons_zero, List.set_cons_succ]))
section
variable {P : Program} {w : World} {K : PySem.W.Frag} {mg : Str → Option Value} {base : Heap}
/-! ### Land.votes -/
def vadd (x y : Vt) : Vt := ⟨x.a + y.a, x.b + y.b, x.i + y.i⟩
def vtot (ns : List Vt) : Vt := ns.foldl vadd ⟨0, 0, 0⟩
theorem vtot_snoc (ns : List Vt) (n : Vt) : vtot (ns ++ [n]) = vadd (vtot ns) n := by
  unfold vtot
  rw [List.foldl_append]
  rfl
theorem take_snoc {α : Type} {xs : List α} {i : Nat} {y : α} (h : xs[i]? = some y) : xs.take (i + 1) = xs.take i ++ [y] := by
  rw [List.take_add_one, h]
  rfl
def sp_votes (K : PySem.W.Frag) : Sp := fun vs H Q _ => ∃ (F : Hp) (v sh : V) (c : LCfg) (ns : List Vt), vs = [v, sh] ∧ Same F H ∧ IsLand K F v c ∧ LstR K (SheetR K) F sh ns ∧ ∀ u F' H', Xt F H F' H' → ILst K F' u (vtot ns).l → Q u H'
theorem ok_Land_votes (T : Txt K mg) : Ok P w K mg base 4 (He.ma K (He.ga K "Land") "votes") (sp_votes K) := by
  refine Ok.of T.fd_Land_votes Txt.b_Land_votes sc_Land_votes (fun vs H Q E h => ?_) fun cdv A outer s H vs Q E hr h => ?_
  · obtain ⟨_, _, _, _, _, rfl, _⟩ := h
    rfl
  obtain ⟨F, v, sh, c, ns, rfl, s, hc, hs, q⟩ := h
  refine ⟨_, (pss_cons (ps_set (i := 2) sc_Land_votes.nd rfl (Or.inl rfl) (pe_op op_mul2 (pe_lst (pa_cons pe_int pa_nil)) (pe_op op_add2 (pe_at (pv 0)) pe_int)))
      (pss_cons (ps_for PassesOwn.never rfl (pi_list (pv 1)) (pg_name (i := 3) sc_Land_votes.nd rfl (Or.inl rfl)) (pss_one (ps_setLc (i := 2) rfl sc_Land_votes.nd rfl rfl (sw_true rfl rfl rfl (by decide +kernel)) (pi_zip (by rfl) T.f_zip (pa_cons (pv 2) (pa_cons (pe_cl (ok_votes_of T) (hr.mono (by decide)) (by rfl) T.g_votes_of (pa_cons (pv 3) (pa_cons (pe_at (pv 0)) pa_nil))) pa_nil))) (blkOk_by (own := [("one", 4), ("other", 5)]) (N := ["self", "sheets", "found", "sheet", "one", "other"]) (sc := (defScope s_Land_votes)) (by decide +kernel)) (fun _ _ _ _ _ => (pg_tupK (K := K) (n := 2) rfl rfl (pgs_cons (pg_name (i := 4) sc_Land_votes.nd rfl (Or.inl rfl)) (pgs_cons (pg_name (i := 5) sc_Land_votes.nd rfl (Or.inl rfl)) pgs_nil)))) (fun _ _ _ _ _ => pts_nil) (fun _ _ _ _ _ => (pe_op op_add2 (pv 4) (pv 5))))))
      (pss_one (ps_ret (pv 2))))), ?_⟩
  walk_at "st"
  walk_at "rd"
  refine ⟨szl (by simp), fun p0 hp0 => ?_⟩
  have x0 := (Xt.refl s).newH (o := .lst [.int 0]) hp0
  walk_at "rd"
  refine hc.hands T x0.fH ?_
  walk_at "rd"
  refine rd_rep upd_same (by decide) (by decide) (by decide) fun p hp => ?_
  have x1 := x0.new (o := .lst [.int 0, .int 0, .int 0]) hp
  walk_at "rd"
  have hu : ILst K (upd F p (.lst [.int 0, .int 0, .int 0])) (.ref p) (vtot []).l := ilst_of (SqL.of upd_same)
  generalize upd F p (.lst [.int 0, .int 0, .int 0]) = F1 at x1 hu
  generalize hH1 : upd (upd H p0 (.lst [.int 0])) p (.lst [.int 0, .int 0, .int 0]) = H1 at x1
  rw [show upd (upd H p0 (.lst [.int 0])) p (.lst (List.replicate (2 + 1 : Int).toNat [V.int 0]).flatten) = H1 from hH1]
  refine fo_list (R := SheetR K) (F := F1) (fun i σ F2 H2 => ∃ (u : V) (y3 y4 y5 : Option V), σ = [some v, some sh, some u, y3, y4, y5] ∧ Xt F1 H1 F2 H2 ∧ ILst K F2 u (vtot (ns.take i)).l) (x1.mono hs) ⟨_, _, _, _, rfl, Xt.refl x1.sub, hu⟩ (fun i σ F1 H1 ⟨_, _, _, _, _, x, _⟩ => ⟨x.ff, x.sub⟩) ?_ ?_
  · rintro i y sv σ F2 H2 hy hsv ⟨u, y3, y4, y5, rfl, x2, hu⟩
    walk_at "rd"
    refine (sm_mo (x1.ff.trans x2.ff) hc).hands T x2.sub ?_
    walk_at "rd"
    refine ⟨F2, sv, y, rfl, x2.sub, hsv, fun vo F3 H3 x3 hvo => ?_⟩
    walk_at "rd"
    refine lc_zip IntR (fun _ => true) (fun p : Int × Int => p.1 + p.2) (sm_mo x3.ff hu) hvo x3.sub (by show 3 ≤ 1000; decide) (fun i a b F4 H4 Tp va vb ha hb x ra rb nT Z Z0 hZ _ => ?_) fun D F4 H4 x4 hD => ?_
    · obtain rfl : va = .int a := ra
      obtain rfl : vb = .int b := rb
      walk_at "wp"
      refine rd_tupG (SqT.of upd_same) rfl ?_
      walk_at "rd"
      refine ⟨rfl, ?_⟩
      walk_at "rd"
      exact hZ rfl _ _ _ ((Xt.refl x.sub).newH nT) rfl
    · walk_at "rd"
      refine ⟨F4, _, _, _, _, rfl, x2.trans (x3.trans x4), ?_⟩
      rw [take_snoc hy, vtot_snoc]
      exact hD
  · rintro σ F2 H2 ⟨u, y3, y4, y5, rfl, x2, hu⟩
    walk_at "rd"
    rw [List.take_length] at hu
    exact q _ _ _ (x1.trans x2) hu
/-! ### House -/
def IsHouse (K : PySem.W.Frag) : Hp → V → LCfg × List Vt → Prop := fun F v p => ∃ a dx ar la sh, v = .ref a ∧ SlX.Slt F a (He.ga K "House") dx [some ar, some la, some sh] ∧ LstR K (ILst K) F ar ((p.1.areas.zip p.2).map fun p => I2 (outA p.1 p.2)) ∧ IsLand K F la p.1 ∧ LstR K (SheetR K) F sh p.2 ∧ p.2.length = p.1.areas.length
instance : Mono (IsHouse K) := ⟨fun s h => by
  obtain ⟨a, dx, ar, la, sh, e, h1, h2, h3, h4, h5⟩ := h
  exact ⟨a, dx, ar, la, sh, e, slt_mono s h1, sm_mo s h2, sm_mo s h3, sm_mo s h4, h5⟩⟩
variable {F H : Hp} {v : V} {Q : VK} {p : LCfg × List Vt}
theorem IsHouse.land (T : Txt K mg) (h : IsHouse K F v p) (s : Same F H) (q : ∀ l, IsLand K F l p.1 → Q l H) : rAt K "its_land" v H Q := by
  obtain ⟨a, dx, ar, la, sh, e, h1, h2, h3, h4, h5⟩ := h
  exact .inr ⟨a, _, dx, _, _, _, _, e, slt_mono s h1, T.s_House, T.sl_House_its_land, rfl, q _ h3⟩
theorem IsHouse.areas (T : Txt K mg) (h : IsHouse K F v p) (s : Same F H) (q : ∀ l, LstR K (ILst K) F l ((p.1.areas.zip p.2).map fun p => I2 (outA p.1 p.2)) → Q l H) : rAt K "its_areas" v H Q := by
  obtain ⟨a, dx, ar, la, sh, e, h1, h2, h3, h4, h5⟩ := h
  exact .inr ⟨a, _, dx, _, _, _, _, e, slt_mono s h1, T.s_House, T.sl_House_its_areas, rfl, q _ h2⟩
theorem IsHouse.sheets (T : Txt K mg) (h : IsHouse K F v p) (s : Same F H) (q : ∀ l, LstR K (SheetR K) F l p.2 → Q l H) : rAt K "its_sheets" v H Q := by
  obtain ⟨a, dx, ar, la, sh, e, h1, h2, h3, h4, h5⟩ := h
  exact .inr ⟨a, _, dx, _, _, _, _, e, slt_mono s h1, T.s_House, T.sl_House_its_sheets, rfl, q _ h4⟩
theorem IsHouse.me {m : Str} {f : Addr} (T : Txt K mg) (h : IsHouse K F v p) (s : Same F H) (hm : Meth K (He.ga K "House") m f) : IsMe K v H m f := by
  obtain ⟨a, dx, ar, la, sh, e, h1, h2, h3, h4, h5⟩ := h
  exact .inr ⟨a, _, dx, _, e, slt_mono s h1, T.s_House, hm⟩
theorem IsLand.ok {c : LCfg} (h : IsLand K F v c) : LOk c := by
  obtain ⟨_, _, _, _, _, _, _, _, _, _, h⟩ := h
  exact h
def sp_House_init (K : PySem.W.Frag) : Sp := fun vs H Q _ => ∃ (F H0 : Hp) (x dx : Addr) (la sh : V) (c : LCfg) (ns : List Vt), vs = [.ref x, la, sh] ∧ H = upd (upd H0 dx (.own x)) x (.ins (He.ga K "House") dx []) ∧ H0 x = none ∧ H0 dx = none ∧ dx ≠ x ∧ Same F H0 ∧ IsLand K F la c ∧ LstR K (SheetR K) F sh ns ∧ ns.length = c.areas.length ∧
  ∀ F' H', Xt F H0 F' H' → IsHouse K F' (.ref x) (c, ns) → Q .non H'
theorem ok_House_init (T : Txt K mg) : Ok P w K mg base 7 (He.ma K (He.ga K "House") "__init__") (sp_House_init K) := by
  refine Ok.of T.fd_House_init Txt.b_House_init sc_House_init (fun vs H Q E h => ?_) fun cdv A outer s H vs Q E hr h => ?_
  · obtain ⟨_, _, _, _, _, _, _, _, rfl, _⟩ := h
    rfl
  obtain ⟨F, H0, x, dx, la, sh, c, ns, rfl, rfl, hx, hdx, hne, s, hc, hs, hlen, q⟩ := h
  have cok := hc.ok
  have m := Mks.start (C := He.ga K "House") (Xt.refl s) hx hdx hne
  refine ⟨_, (pss_cons (ps_asg (pe_tup (pa_cons (pv 1) (pa_cons (pe_lc rfl sc_House_init.nd (pi_list (pv 2)) (blkOk_by (own := [("sheet", 3)]) (N := ["self", "land", "sheets", "sheet", "way"]) (sc := (defScope s_House_init)) (by decide +kernel)) (fun _ _ _ _ _ => (pg_name (i := 3) sc_House_init.nd rfl (Or.inl rfl))) (fun _ _ _ _ _ => pts_nil) (fun _ _ _ _ _ => (pe_callTy (listOfK (K := K) rfl) (by rfl) T.f_list (by decide +kernel) (pa_cons (pv 3) pa_nil)))) pa_nil))) (pg_tup rfl (pgs_cons (pg_at (pv 0)) (pgs_cons (pg_at (pv 0)) pgs_nil))))
      (pss_one (ps_asg (pe_lc rfl sc_House_init.nd (pi_zip (by rfl) T.f_zip (pa_cons (pe_at (pv 1)) (pa_cons (pe_at (pv 0)) pa_nil))) (blkOk_by (own := [("way", 4), ("sheet", 3)]) (N := ["self", "land", "sheets", "sheet", "way"]) (sc := (defScope s_House_init)) (by decide +kernel)) (fun _ _ _ _ _ => (pg_tupK (K := K) (n := 2) rfl rfl (pgs_cons (pg_name (i := 4) sc_House_init.nd rfl (Or.inl rfl)) (pgs_cons (pg_name (i := 3) sc_House_init.nd rfl (Or.inl rfl)) pgs_nil)))) (fun _ _ _ _ _ => pts_nil) (fun _ _ _ _ _ => (meK (P := P) (w := w) (K := K) (mg := mg) (base := base) rfl rfl rfl rfl rfl (k := 6) (hr.mono (by decide)) (pv 4) (pa_cons (pv 3) pa_nil)))) (pg_at (pv 0))))), ?_⟩
  walk_at "st"
  walk_at "rd"
  refine lc_list (SheetR K) (fun _ => true) (fun n : Vt => n) hs m.x.sub (by have := cok.a2; omega) (fun i y F1 H2 v hy x hv Z Z0 hZ _ => ?_) fun D F1 H1 x1 hD => ?_
  · obtain ⟨rows, ⟨l, vs, rfl, hl, ha⟩, hok, hn⟩ := hv
    walk_at "wp"
    walk_at "rd"
    refine ⟨rfl, ?_⟩
    walk_at "rd"
    refine rd_listL (x.sub.seq hl) fun l2 hl2 => ?_
    exact hZ rfl _ _ _ ((Xt.refl x.sub).new hl2) ⟨rows, ⟨l2, vs, rfl, SqL.of upd_same, ha.imp fun _ _ r => sm_mo (same_new (x.sub.free hl2)) r⟩, hok, hn⟩
  rw [filtT, List.map_id'] at hD
  have m := m.step x1
  walk_at "rd"
  refine ⟨szl (by simp), fun pt hpt => ?_⟩
  have m := m.step ((Xt.refl m.x.sub).newH (o := .tup [la, .ref D]) hpt)
  refine rd_tupG (SqT.of upd_same) rfl ?_
  walk_at "rd"
  refine .inr ⟨x, _, dx, _, _, _, rfl, m.e, T.s_House, T.sl_House_its_land, ?_⟩
  have m := m.set (i := 1) (y := la)
  walk_at "rd"
  refine .inr ⟨x, _, dx, _, _, _, rfl, m.e, T.s_House, T.sl_House_its_sheets, ?_⟩
  have m := m.set (i := 2) (y := .ref D)
  walk_at "rd"
  refine (sm_mo x1.ff hc).areas T m.x.sub fun l hl => ?_
  walk_at "rd"
  refine .inr ⟨x, _, dx, _, _, _, _, rfl, m.e, T.s_House, T.sl_House_its_sheets, rfl, ?_⟩
  walk_at "rd"
  refine lc_zip (ILst K) (fun _ => true) (fun p : Cfg × Vt => I2 (outA p.1 p.2)) hl hD m.x.sub (by have := cok.a2; omega) (fun i a b F4 H4 Tp va vb ha hb x ra rb nT Z Z0 hZ _ => ?_) fun D2 F2 H2 x2 hD2 => ?_
  · walk_at "wp"
    refine rd_tupG (SqT.of upd_same) rfl ?_
    walk_at "rd"
    refine ⟨rfl, ?_⟩
    have xt : Xt F4 H4 F4 (upd H4 Tp (.tup [va, vb])) := (Xt.refl x.sub).newH nT
    walk_at "rd"
    refine ⟨_, _, ra.me T xt.sub T.m_Lists_outcome rfl, ok_Way_outcome T, ?_⟩
    walk_at "rd"
    exact ⟨F4, va, vb, a, b, rfl, xt.sub, ra, rb, fun u F5 H5 x5 hu => hZ rfl _ _ _ (xt.trans x5) hu⟩
  rw [filtT] at hD2
  have m := m.step x2
  walk_at "rd"
  refine .inr ⟨x, _, dx, _, _, _, rfl, m.e, T.s_House, T.sl_House_its_areas, ?_⟩
  have m := m.set (i := 0) (y := .ref D2)
  obtain ⟨F3, x3, s3, h3⟩ := m.fin (by simp [SlX.putS])
  refine q _ _ x3 ⟨x, dx, .ref D2, la, .ref D, rfl, h3, sm_mo s3 hD2, sm_mo (x1.ff.trans (x2.ff.trans s3)) hc, sm_mo (x2.ff.trans s3) hD, hlen⟩
/-! ### had, evening_paper, of_evening, in_all -/
def sum2 (ps : List (Int × Int)) : Int × Int := ((ps.map (·.1)).sum, (ps.map (·.2)).sum)
def hadL (c : LCfg) (ns : List Vt) : Int × Int := sum2 ((c.areas.zip ns).map fun p => outA p.1 p.2)
def outE (c : LCfg) (ns : List Vt) : Int × Int := cnt (runM c.f c.st (want c.ht c.hb (vtot ns).sum) (vtot ns).a (vtot ns).b c.ev (hadL c ns).1 (hadL c ns).2)
def allL (c : LCfg) (ns : List Vt) : Int × Int := ((hadL c ns).1 + (outE c ns).1, (hadL c ns).2 + (outE c ns).2)
theorem hadL_bd {c : LCfg} (h : LOk c) (ns : List Vt) : 0 ≤ (hadL c ns).1 ∧ (hadL c ns).1 ≤ 6 ∧ 0 ≤ (hadL c ns).2 ∧ (hadL c ns).2 ≤ 6 := by
  obtain ⟨areas, ev, f, ht, hb, st⟩ := c
  have h2 := h.a2
  have ho := h.areas
  simp only at h2 ho
  unfold hadL sum2
  simp only
  match areas, h2, ho with
  | [], _, _ => simp
  | [c1], _, ho =>
    cases ns with
    | nil => simp
    | cons n ns =>
      have := outA_bd (ho c1 (by simp)) n
      simp
      omega
  | [c1, c2], _, ho =>
    match ns with
    | [] => simp
    | [n] =>
      have := outA_bd (ho c1 (by simp)) n
      simp
      omega
    | n :: m :: ns =>
      have := outA_bd (ho c1 (by simp)) n
      have := outA_bd (ho c2 (by simp)) m
      simp
      omega
theorem outE_bd {c : LCfg} (h : LOk c) (ns : List Vt) : 0 ≤ (outE c ns).1 ∧ 0 ≤ (outE c ns).2 ∧ (outE c ns).1 + (outE c ns).2 ≤ 2 := by
  unfold outE
  obtain ⟨h1, h2, h3⟩ := runM_cnt (runM c.f c.st (want c.ht c.hb (vtot ns).sum) (vtot ns).a (vtot ns).b c.ev (hadL c ns).1 (hadL c ns).2)
  have := runM_len c.f c.st (want c.ht c.hb (vtot ns).sum) (vtot ns).a (vtot ns).b c.ev (hadL c ns).1 (hadL c ns).2
  have := h.e2
  exact ⟨h1, h2, by omega⟩
def sp_had (K : PySem.W.Frag) : Sp := fun vs H Q _ => ∃ (F : Hp) (v : V) (c : LCfg) (ns : List Vt), vs = [v] ∧ Same F H ∧ IsHouse K F v (c, ns) ∧ ∀ u F' H', Xt F H F' H' → ILst K F' u (I2 (hadL c ns)) → Q u H'
theorem ok_House_had (T : Txt K mg) : Ok P w K mg base 1 (He.ma K (He.ga K "House") "had") (sp_had K) := by
  refine Ok.of T.fd_House_had Txt.b_House_had sc_House_had (fun vs H Q E h => ?_) fun cdv A outer s H vs Q E hr h => ?_
  · obtain ⟨_, _, _, _, rfl, _⟩ := h
    rfl
  obtain ⟨F, v, c, ns, rfl, s, hh, q⟩ := h
  refine ⟨_, (pss_one (ps_ret (pe_lc rfl sc_House_had.nd (pi_range1 (by rfl) T.f_range (pa_cons (pe_at (pe_at (pv 0))) pa_nil)) (blkOk_by (own := [("hand", 1)]) (N := ["self", "hand", "some"]) (sc := (defScope s_House_had)) (by decide +kernel)) (fun _ _ _ _ _ => (pg_name (i := 1) sc_House_had.nd rfl (Or.inr rfl))) (fun _ _ _ _ _ => pts_nil) (fun _ _ _ _ _ => (pe_callB (sumK (K := K) rfl rfl) (by rfl) T.f_sum (by decide +kernel) (pa_cons (pe_lc rfl sc_House_had.nd (listK (K := K) rfl (atK (K := K) rfl (pv 0))) (blkOk_by (own := [("some", 2)]) (N := ["self", "hand", "some"]) (sc := ({ kind := .function, names := [(PySem.Str.ofString ".0", .local), (PySem.Str.ofString "hand", .cell), (PySem.Str.ofString "sum", .globalImplicit), (PySem.Str.ofString "self", .cell)], isGenerator := false, isCoroutine := false, more := [] } : Scope)) (by decide +kernel)) (fun _ _ _ _ _ => (pg_name (i := 2) sc_House_had.nd rfl (Or.inl rfl))) (fun _ _ _ _ _ => pts_nil) (fun _ _ _ _ _ => (pe_ix (ixK (K := K) rfl) (pv 2) (pv 1) (fun _ _ => rfl)))) pa_nil)))))), ?_⟩
  walk_at "st"
  walk_at "rd"
  refine hh.land T s fun la hla => ?_
  walk_at "rd"
  refine hla.hands T s ?_
  walk_at "rd"
  refine lc_rng (K := K) (n := 2) IntR (fun _ => true) (fun i : Nat => sel (hadL c ns) i) s (by decide) (fun i F1 H1 hi x Z Z0 hZ _ => ?_) fun D F1 H1 x1 hD => ?_
  · walk_at "wp"
    walk_at "rd"
    refine ⟨rfl, ?_⟩
    walk_at "rd"
    refine (x.mono hh).areas T x.sub fun ar har => ?_
    have hl : ((c.areas.zip ns).map fun p => I2 (outA p.1 p.2)).length ≤ 2 := by
      have h2 : c.areas.length ≤ 2 := hla.ok.a2
      rw [List.length_map, List.length_zip]
      omega
    refine lc_list (R := ILst K) IntR (fun _ => true) (fun p : List Int => p.getD i 0) har x.sub (Nat.le_trans hl (by decide)) (fun j y F2 H2 v hy x2 hv Z Z0 hZ _ => ?_) fun D F2 H2 x2 hD => ?_
    · obtain ⟨l, rfl, hl⟩ := ilst_to hv
      obtain ⟨y', hy', rfl⟩ : ∃ y', y' ∈ c.areas.zip ns ∧ I2 (outA y'.1 y'.2) = y := by
        have := List.mem_of_getElem? hy
        simpa using this
      walk_at "wp"
      walk_at "rd"
      refine ⟨rfl, ?_⟩
      walk_at "rd"
      refine rd_ixL (x2.sub.seq hl) (at_sel (p := outA y'.1 y'.2) hi rfl) ?_
      refine hZ rfl _ _ _ (Xt.refl x2.sub) ?_
      have h3 : i = 0 ∨ i = 1 := by omega
      rcases h3 with rfl | rfl <;> rfl
    · obtain ⟨l, e, hl⟩ := ilst_to hD
      cases e
      walk_at "rd"
      refine rd_sum (x2.sub.seq hl) ?_
      refine hZ rfl _ _ _ x2 ?_
      rw [filtT, List.map_map]
      have h3 : i = 0 ∨ i = 1 := by omega
      unfold hadL sum2
      rcases h3 with rfl | rfl
      · simp [IntR, sel, I2, Function.comp_def]
      · simp [IntR, sel, I2, Function.comp_def]
  · walk_at "rd"
    rw [filtT] at hD
    exact q _ _ _ x1 hD
def sp_evening_paper (K : PySem.W.Frag) : Sp := fun vs H Q _ => ∃ (F : Hp) (v : V) (c : LCfg) (ns : List Vt), vs = [v] ∧ Same F H ∧ IsHouse K F v (c, ns) ∧ VtOk (vtot ns) ∧ ∀ u F' H', Xt F H F' H' → PaperR K F' u (runM c.f c.st (want c.ht c.hb (vtot ns).sum) (vtot ns).a (vtot ns).b c.ev (hadL c ns).1 (hadL c ns).2) → Q u H'
theorem ok_House_evening_paper (T : Txt K mg) : Ok P w K mg base 7 (He.ma K (He.ga K "House") "evening_paper") (sp_evening_paper K) := by
  refine Ok.of T.fd_House_evening_paper Txt.b_House_evening_paper sc_House_evening_paper (fun vs H Q E h => ?_) fun cdv A outer s H vs Q E hr h => ?_
  · obtain ⟨_, _, _, _, rfl, _⟩ := h
    rfl
  obtain ⟨F, v, c, ns, rfl, s, hh, hok, q⟩ := h
  refine ⟨_, (pss_one (ps_ret (pe_cl (ok_evening T) (hr.mono (by decide)) (by rfl) T.g_evening (pa_cons (pe_at (pv 0)) (pa_cons (pe_me (k := 4) (hr.mono (by decide)) (pe_at (pv 0)) (pa_cons (pe_at (pv 0)) pa_nil)) (pa_cons (pe_me0 (k := 1) (hr.mono (by decide)) (pv 0)) pa_nil)))))), ?_⟩
  walk_at "st"
  walk_at "rd"
  refine hh.land T s fun la hla => ?_
  walk_at "rd"
  refine hh.land T s fun la2 hla2 => ?_
  refine ⟨_, _, hla2.me T s T.m_Land_votes, (ok_Land_votes T).mono (by decide), ?_⟩
  walk_at "rd"
  refine hh.sheets T s fun sh hsh => ?_
  walk_at "rd"
  refine ⟨F, la2, sh, c, ns, rfl, s, hla2, hsh, fun vo F1 H1 x1 hvo => ?_⟩
  walk_at "rd"
  refine ⟨_, _, (x1.mono hh).me T x1.sub T.m_House_had, (ok_House_had T).mono (by decide), ?_⟩
  walk_at "rd"
  refine ⟨F1, v, c, ns, rfl, x1.sub, x1.mono hh, fun ha F2 H2 x2 hha => ?_⟩
  walk_at "rd"
  have := hadL_bd (c := c) hla.ok ns
  exact ⟨F2, la, vo, ha, c, vtot ns, _, _, rfl, x2.sub, sm_mo (x1.ff.trans x2.ff) hla, x2.mono hvo, hok, hha, by omega, by omega, by omega, by omega, fun u F3 H3 x3 hu => q _ _ _ (x1.trans (x2.trans x3)) hu⟩
def sp_of_evening (K : PySem.W.Frag) : Sp := fun vs H Q _ => ∃ (F : Hp) (v : V) (c : LCfg) (ns : List Vt), vs = [v] ∧ Same F H ∧ IsHouse K F v (c, ns) ∧ VtOk (vtot ns) ∧ ∀ u F' H', Xt F H F' H' → ILst K F' u (I2 (outE c ns)) → Q u H'
theorem ok_House_of_evening (T : Txt K mg) : Ok P w K mg base 8 (He.ma K (He.ga K "House") "of_evening") (sp_of_evening K) := by
  refine Ok.of T.fd_House_of_evening Txt.b_House_of_evening sc_House_of_evening (fun vs H Q E h => ?_) fun cdv A outer s H vs Q E hr h => ?_
  · obtain ⟨_, _, _, _, rfl, _⟩ := h
    rfl
  obtain ⟨F, v, c, ns, rfl, s, hh, hok, q⟩ := h
  refine ⟨_, (pss_one (ps_ret (pe_cl (ok_evened_by T) (hr.mono (by decide)) (by rfl) T.g_evened_by (pa_cons (pe_at (pv 0)) (pa_cons (pe_me0 (k := 7) (hr.mono (by decide)) (pv 0)) pa_nil))))), ?_⟩
  walk_at "st"
  walk_at "rd"
  refine hh.land T s fun la hla => ?_
  walk_at "rd"
  refine ⟨_, _, hh.me T s T.m_House_evening_paper, (ok_House_evening_paper T).mono (by decide), ?_⟩
  walk_at "rd"
  refine ⟨F, v, c, ns, rfl, s, hh, hok, fun u F1 H1 x1 hu => ?_⟩
  walk_at "rd"
  exact ⟨F1, la, u, c, _, rfl, x1.sub, x1.mono hla, hu, fun u2 F2 H2 x2 hu2 => q _ _ _ (x1.trans x2) hu2⟩
def sp_in_all (K : PySem.W.Frag) : Sp := fun vs H Q _ => ∃ (F : Hp) (v : V) (c : LCfg) (ns : List Vt), vs = [v] ∧ Same F H ∧ IsHouse K F v (c, ns) ∧ VtOk (vtot ns) ∧ ∀ u F' H', Xt F H F' H' → ILst K F' u (I2 (allL c ns)) → Q u H'
theorem ok_House_in_all (T : Txt K mg) : Ok P w K mg base 9 (He.ma K (He.ga K "House") "in_all") (sp_in_all K) := by
  refine Ok.of T.fd_House_in_all Txt.b_House_in_all sc_House_in_all (fun vs H Q E h => ?_) fun cdv A outer s H vs Q E hr h => ?_
  · obtain ⟨_, _, _, _, rfl, _⟩ := h
    rfl
  obtain ⟨F, v, c, ns, rfl, s, hh, hok, q⟩ := h
  refine ⟨_, (pss_one (ps_ret (pe_lc rfl sc_House_in_all.nd (pi_zip (by rfl) T.f_zip (pa_cons (pe_me0 (k := 1) (hr.mono (by decide)) (pv 0)) (pa_cons (pe_me0 (k := 8) (hr.mono (by decide)) (pv 0)) pa_nil))) (blkOk_by (own := [("one", 1), ("other", 2)]) (N := ["self", "one", "other"]) (sc := (defScope s_House_in_all)) (by decide +kernel)) (fun _ _ _ _ _ => (pg_tupK (K := K) (n := 2) rfl rfl (pgs_cons (pg_name (i := 1) sc_House_in_all.nd rfl (Or.inl rfl)) (pgs_cons (pg_name (i := 2) sc_House_in_all.nd rfl (Or.inl rfl)) pgs_nil)))) (fun _ _ _ _ _ => pts_nil) (fun _ _ _ _ _ => (pe_op op_add2 (pv 1) (pv 2)))))), ?_⟩
  walk_at "st"
  walk_at "rd"
  refine ⟨_, _, hh.me T s T.m_House_had, (ok_House_had T).mono (by decide), ?_⟩
  walk_at "rd"
  refine ⟨F, v, c, ns, rfl, s, hh, fun u1 F1 H1 x1 hu1 => ?_⟩
  walk_at "rd"
  refine ⟨_, _, (x1.mono hh).me T x1.sub T.m_House_of_evening, (ok_House_of_evening T).mono (by decide), ?_⟩
  walk_at "rd"
  refine ⟨F1, v, c, ns, rfl, x1.sub, x1.mono hh, hok, fun u2 F2 H2 x2 hu2 => ?_⟩
  walk_at "rd"
  refine lc_zip IntR (fun _ => true) (fun p : Int × Int => p.1 + p.2) (sm_mo x2.ff hu1) hu2 x2.sub (by show 2 ≤ 1000; decide) (fun i a b F4 H4 Tp va vb ha hb x ra rb nT Z Z0 hZ _ => ?_) fun D F4 H4 x4 hD => ?_
  · obtain rfl : va = .int a := ra
    obtain rfl : vb = .int b := rb
    walk_at "wp"
    refine rd_tupG (SqT.of upd_same) rfl ?_
    walk_at "rd"
    refine ⟨rfl, ?_⟩
    walk_at "rd"
    exact hZ rfl _ _ _ ((Xt.refl x.sub).newH nT) rfl
  · walk_at "rd"
    exact q _ _ _ (x1.trans (x2.trans x4)) hD
end
end Wp


set_option Elab.async false
set_option linter.all false
set_option maxRecDepth 100000
set_option maxHeartbeats 4000000
namespace Wp
open PySem PySem.Spec PyProof.Rows L2
local macro_rules | `(tactic| walk_at "rd") => `(tactic| repeat (first
  | ((with_reducible apply rd_var); · exact rfl)
  | with_reducible refine rd_c ?_ | with_reducible refine rd_op ?_ | with_reducible refine rd_un ?_ | with_reducible refine rd_test ?_ | with_reducible refine rd_B ?_ | with_reducible refine rd_bl ?_
  | with_reducible refine rd_and ?_ | with_reducible refine rd_or ?_ | with_reducible refine rd_not ?_ | with_reducible refine rd_andV ?_ | with_reducible refine rd_orV ?_ | with_reducible refine rd_notV ?_ | with_reducible refine rd_ifE ?_
  | with_reducible refine rd_seq ?_ | with_reducible refine rd_asg ?_ | ((with_reducible apply rd_name); · (simp only [List.set_cons_zero, List.set_cons_succ]; exact rfl)) | with_reducible refine rd_ret ?_ | with_reducible refine rd_drop ?_ | with_reducible refine rd_if ?_ | with_reducible refine rd_next ?_ | with_reducible refine rd_break ?_ | with_reducible refine rd_cont ?_
  | with_reducible refine rd_cl ?_ | with_reducible refine rd_cb ?_ | with_reducible refine rd_mk ?_ | with_reducible refine rd_cons ?_ | with_reducible refine rd_nil ?_ | with_reducible refine rd_tup ?_ | with_reducible refine rd_lst ?_ | with_reducible refine rd_at ?_ | with_reducible refine rd_gAt ?_
  | with_reducible refine rd_isN ?_ | with_reducible refine rd_notN ?_ | with_reducible refine rd_abs ?_ | with_reducible refine rd_max ?_ | with_reducible refine rd_int ?_ | with_reducible refine rd_intB ?_ | with_reducible refine rd_consG ?_ | with_reducible refine rd_nilG ?_ | with_reducible refine rd_ipI ?_ | ((with_reducible apply rd_aug); · exact rfl)
  | with_reducible refine rd_par ?_ | with_reducible refine rd_par3 ?_ | ((with_reducible apply rd_parQ); · (simp only [List.set_cons_zero, List.set_cons_succ]; exact rfl)) | ((with_reducible apply rd_par3Q); · (simp only [List.set_cons_zero, List.set_cons_succ]; exact rfl))
  | with_reducible refine rd_yes ?_ | with_reducible refine rd_chain ?_ | with_reducible refine rd_bm ?_ | with_reducible refine rd_bm0 ?_ | with_reducible refine rd_me ?_ | with_reducible refine rd_augS ?_ | with_reducible refine rd_subG ?_ | with_reducible refine rd_forR ?_ | with_reducible refine rd_sl ?_ | with_reducible refine rd_part ?_ | with_reducible refine rd_partQ ?_ | with_reducible refine rd_noPart ?_ | with_reducible refine rd_lstRg ?_ | with_reducible refine rd_forL ?_ | with_reducible refine rd_forE ?_ | with_reducible refine rd_forZ ?_ | with_reducible refine rd_lcL ?_ | with_reducible refine rd_lcR ?_ | with_reducible refine rd_lcE ?_ | with_reducible refine rd_lcZ ?_ | with_reducible refine rd_while ?_
  | with_reducible refine iteT ?_ | with_reducible refine iteF ?_ | with_reducible refine ifNotT ?_ | with_reducible refine ifNotF ?_ | with_reducible refine rd_I0 ?_ | with_reducible refine rd_U ?_ | with_reducible refine rd_add ?_ | with_reducible refine rd_eqI ?_ | with_reducible refine rd_neI ?_ | with_reducible refine rd_eqB ?_))
local macro_rules | `(tactic| walk_at "st") => `(tactic| (intro σ hσ; simp only [L2.start, List.map_cons, List.map_nil, List.length_cons, List.length_nil, List.reduceReplicate, List.replicate_zero, List.append_nil, Nat.reduceAdd, Nat.reduceSub, List.cons_append, List.nil_append] at hσ; subst hσ; try dsimp only [cxOf, Cx.nox, Cx.wish]))
local macro_rules | `(tactic| walk_at "wp") => `(tactic| (simp only [List.map_cons, List.map_nil, wipe, List.set_cons_zero, List.set_cons_succ]))
section
variable {P : Program} {w : World} {K : PySem.W.Frag} {mg : Str → Option Value} {base : Heap}
/-! ### LandMargin -/
theorem vadd_sum (x y : Vt) : (vadd x y).sum = x.sum + y.sum := by
  unfold vadd Vt.sum
  simp only
  omega
theorem vtot_foldl (ns : List Vt) (z : Vt) : (ns.foldl vadd z).sum = z.sum + vsum ns := by
  induction ns generalizing z with
  | nil => simp [vsum]
  | cons n ns ih =>
    rw [List.foldl_cons, ih, vadd_sum]
    unfold vsum
    rw [List.map_cons, List.sum_cons]
    omega
theorem vtot_sum (ns : List Vt) : (vtot ns).sum = vsum ns := by
  unfold vtot
  rw [vtot_foldl]
  show 0 + 0 + 0 + vsum ns = _
  omega
def IsLM (K : PySem.W.Frag) : Hp → V → LCfg → Prop := fun F v c => ∃ a dx la ml, v = .ref a ∧ F a = some (.ins (He.ga K "LandMargin") dx [("land", la), ("margins", ml)]) ∧ IsLand K F la c ∧ LstR K (IsMargin K) F ml c.areas
instance : Mono (IsLM K) := ⟨fun s h => by
  obtain ⟨a, dx, la, ml, e, h1, h2, h3⟩ := h
  exact ⟨a, dx, la, ml, e, s _ _ h1, sm_mo s h2, sm_mo s h3⟩⟩
theorem IsLM.land {F H : Hp} {v : V} {Q : VK} {c : LCfg} (T : Txt K mg) (h : IsLM K F v c) (s : Same F H) (q : ∀ l, IsLand K F l c → Q l H) : rAt K "land" v H Q := by
  obtain ⟨a, dx, la, ml, e, h1, h2, h3⟩ := h
  exact .inl ⟨a, _, dx, _, _, e, s _ _ h1, T.c_LandMargin, T.n_LandMargin_land, rfl, q _ h2⟩
theorem IsLM.margins {F H : Hp} {v : V} {Q : VK} {c : LCfg} (T : Txt K mg) (h : IsLM K F v c) (s : Same F H) (q : ∀ l, LstR K (IsMargin K) F l c.areas → Q l H) : rAt K "margins" v H Q := by
  obtain ⟨a, dx, la, ml, e, h1, h2, h3⟩ := h
  exact .inl ⟨a, _, dx, _, _, e, s _ _ h1, T.c_LandMargin, T.n_LandMargin_margins, rfl, q _ h3⟩
theorem IsLM.me {F H : Hp} {v : V} {c : LCfg} {m : Str} {f : Addr} (T : Txt K mg) (h : IsLM K F v c) (s : Same F H) (hm : Meth K (He.ga K "LandMargin") m f) (hl : ([("land", .non), ("margins", .non)] : List (Str × V)).lookup m = none) : IsMe K v H m f := by
  obtain ⟨a, dx, la, ml, e, h1, h2, h3⟩ := h
  refine .inl ⟨a, _, dx, _, e, s _ _ h1, T.c_LandMargin, hm, ?_⟩
  simp only [List.lookup] at hl ⊢
  split at hl <;> first | cases hl | skip
  split at hl <;> first | cases hl | skip
  simp [*]
theorem IsMargin.me {F H : Hp} {v : V} {c : Cfg} {m : Str} {f : Addr} (T : Txt K mg) (h : IsMargin K F v c) (s : Same F H) (hm : Meth K (He.ga K "ListsMargin") m f) (hl : ([("way", .non)] : List (Str × V)).lookup m = none) : IsMe K v H m f := by
  obtain ⟨a, dx, u, e, h1, h2⟩ := h
  refine .inl ⟨a, _, dx, _, e, s _ _ h1, T.c_ListsMargin, hm, ?_⟩
  simp only [List.lookup] at hl ⊢
  split at hl <;> first | cases hl | skip
  simp [*]
def sp_LandMargin_init (K : PySem.W.Frag) : Sp := fun vs H Q _ => ∃ (F H0 : Hp) (x dx : Addr) (la : V) (c : LCfg), vs = [.ref x, la] ∧ H = upd (upd H0 dx (.own x)) x (.ins (He.ga K "LandMargin") dx []) ∧ H0 x = none ∧ H0 dx = none ∧ dx ≠ x ∧ Same F H0 ∧ IsLand K F la c ∧
  ∀ F' H', Xt F H0 F' H' → IsLM K F' (.ref x) c → Q .non H'
theorem ok_LandMargin_init (T : Txt K mg) : Ok P w K mg base 4 (He.ma K (He.ga K "LandMargin") "__init__") (sp_LandMargin_init K) := by
  refine Ok.of T.fd_LandMargin_init Txt.b_LandMargin_init sc_LandMargin_init (fun vs H Q E h => ?_) fun cdv A outer s H vs Q E hr h => ?_
  · obtain ⟨_, _, _, _, _, _, rfl, _⟩ := h
    rfl
  obtain ⟨F, H0, x, dx, la, c, rfl, rfl, hx, hdx, hne, s, hc, q⟩ := h
  have m := Mkg.start (o := .ins (He.ga K "LandMargin") dx []) (u := .own x) (Xt.refl s) hx hdx hne
  refine ⟨_, (pss_cons (ps_asg (pv 1) (pg_at (pv 0)))
      (pss_one (ps_asg (pe_lc rfl sc_LandMargin_init.nd (pi_list (pe_at (pv 1))) (blkOk_by (own := [("way", 2)]) (N := ["self", "land", "way"]) (sc := (defScope s_LandMargin_init)) (by decide +kernel)) (fun _ _ _ _ _ => (pg_name (i := 2) sc_LandMargin_init.nd rfl (Or.inl rfl))) (fun _ _ _ _ _ => pts_nil) (fun _ _ _ _ _ => (pe_cl (ok_margin_for T) (hr.mono (by decide)) (by rfl) T.g_margin_for (pa_cons (pv 2) pa_nil)))) (pg_at (pv 0))))), ?_⟩
  walk_at "st"
  walk_at "rd"
  refine .inl ⟨x, _, dx, [], rfl, m.e, T.c_LandMargin, T.n_LandMargin_land, by decide, ?_⟩
  have m := m.set (o' := .ins (He.ga K "LandMargin") dx (putF "land" la []))
  walk_at "rd"
  refine hc.areas T m.x.sub fun l hl => ?_
  refine lc_list (IsMargin K) (fun _ => true) (fun n : Cfg => n) hl m.x.sub (by have := hc.ok.a2; omega) (fun i y F1 H2 v hy x hv Z Z0 hZ _ => ?_) fun D F1 H1 x1 hD => ?_
  · walk_at "wp"
    walk_at "rd"
    refine ⟨rfl, ?_⟩
    walk_at "rd"
    exact ⟨F1, v, y, rfl, x.sub, hv, fun u F3 H3 x3 hu => hZ rfl _ _ _ x3 hu⟩
  rw [filtT, List.map_id'] at hD
  have m := m.step x1
  walk_at "rd"
  refine .inl ⟨x, _, dx, _, rfl, m.e, T.c_LandMargin, T.n_LandMargin_margins, (show 1 < 1000 by decide), ?_⟩
  have m := m.set (o' := .ins (He.ga K "LandMargin") dx (putF "margins" (.ref D) (putF "land" la [])))
  exact q _ _ m.fin ⟨x, dx, la, .ref D, rfl, upd_same, sm_mo (x1.ff.trans m.ff) hc, sm_mo m.ff hD⟩
def heldE (c : LCfg) (seen : List Vt) (u : Int) (known : List Vt) : Bool :=
  if u = 0 ∨ c.ev = 0 then true else if (outE c known).1 + (outE c known).2 = 0 then noneC (want c.ht c.hb (vsum known)) ((vtot seen).a, (vtot seen).b) u else coreH c.f c.st (want c.ht c.hb (vsum known)) ((vtot seen).a, (vtot seen).b) u (outE c known) (allL c known)
def sp_heldE (K : PySem.W.Frag) : Sp := fun vs H Q _ => ∃ (F : Hp) (v sn kn : V) (c : LCfg) (seen known : List Vt) (u : Int), vs = [v, sn, .int u, kn] ∧ Same F H ∧ IsLM K F v c ∧ LstR K (SheetR K) F sn seen ∧ LstR K (SheetR K) F kn known ∧ known.length = c.areas.length ∧ VtOk (vtot known) ∧ ∀ H', Same H H' → Q (.bl (heldE c seen u known)) H'
theorem ok_LandMargin_even_held (T : Txt K mg) : Ok P w K mg base 10 (He.ma K (He.ga K "LandMargin") "even_held") (sp_heldE K) := by
  refine Ok.of T.fd_LandMargin_even_held Txt.b_LandMargin_even_held sc_LandMargin_even_held (fun vs H Q E h => ?_) fun cdv A outer s H vs Q E hr h => ?_
  · obtain ⟨_, _, _, _, _, _, _, _, rfl, _⟩ := h
    rfl
  obtain ⟨F, v, sn, kn, c, seen, known, u, rfl, s, hlm, hsn, hkn, hlen, nok, q⟩ := h
  have sum0 : 0 ≤ vsum known ∧ vsum known ≤ 1000 := by
    rw [← vtot_sum]
    have := nok.a0; have := nok.b0; have := nok.i0; have := nok.m
    exact ⟨by unfold Vt.sum; omega, this⟩
  obtain ⟨am, rfl⟩ : ∃ a, v = .ref a := by
    obtain ⟨a, _, _, _, e, _⟩ := hlm
    exact ⟨a, e⟩
  refine ⟨_, (pss_cons (ps_par (i := 4) (j := 5) (by rfl) sc_LandMargin_even_held.nd rfl rfl (by decide) rfl rfl (pa_cons (pe_at (pv 0)) (pa_cons (pe_mk T.k_House (ok_House_init T) (hr.mono (by decide)) (by rfl) T.g_House (pa_cons (pe_at (pv 0)) (pa_cons (pv 3) pa_nil))) pa_nil)) (by rfl))
      (pss_cons (ps_asg (pe_tup (pa_cons (pe_me0 (k := 8) (hr.mono (by decide)) (pv 5)) (pa_cons (pe_me0 (k := 9) (hr.mono (by decide)) (pv 5)) (pa_cons (pe_me (k := 4) (hr.mono (by decide)) (pv 4) (pa_cons (pv 1) pa_nil)) pa_nil)))) (pg_tup rfl (pgs_cons (pg_name (i := 6) sc_LandMargin_even_held.nd rfl (Or.inl rfl)) (pgs_cons (pg_name (i := 7) sc_LandMargin_even_held.nd rfl (Or.inl rfl)) (pgs_cons (pg_name (i := 8) sc_LandMargin_even_held.nd rfl (Or.inr rfl)) pgs_nil)))))
      (pss_cons (ps_set (i := 9) sc_LandMargin_even_held.nd rfl (Or.inr rfl) (pe_me (k := 2) (hr.mono (by decide)) (pv 4) (pa_cons (pe_cl (ok_ballots_of T) (hr.mono (by decide)) (by rfl) T.g_ballots_of (pa_cons (pv 3) pa_nil)) pa_nil)))
      (pss_cons (ps_setLc (i := 11) rfl sc_LandMargin_even_held.nd rfl rfl (sw_true rfl rfl rfl (by decide +kernel)) (pi_range1 (by rfl) T.f_range (pa_cons (pe_at (pv 4)) pa_nil)) (blkOk_by (own := [("a", 10)]) (N := ["self", "seen", "unseen", "known", "land", "house", "evened", "seats", "votes", "least", "a", "could", "b", "one"]) (sc := (defScope s_LandMargin_even_held)) (by decide +kernel)) (fun _ _ _ _ _ => (pg_name (i := 10) sc_LandMargin_even_held.nd rfl (Or.inl rfl))) (fun _ _ _ _ _ => (pts_one (pt_cmpR op_ge (pe_op op_add2 (pe_ix (ixK (K := K) rfl) (pv 8) (pv 10) (fun _ _ => rfl)) (pv 2)) (pv 9) (nomark _)))) (fun _ _ _ _ _ => (pv 10)))
      (pss_cons (ps_if (PW.pt (pw_or (pt_cmpR (op_eq2 hr) (pv 2) pe_int (nomark _)) (pw_or1 (pt_cmpR (op_eq2 hr) (pe_at (pv 4)) pe_int (nomark _))))) (pss_one (ps_ret pe_bl)) pss_nil)
      (pss_cons (ps_if (pt_cmpR (op_eq2 hr) (pe_callB (cr_sum rfl) (by rfl) T.f_sum (by decide +kernel) (pa_cons (pv 6) pa_nil)) pe_int (nomark _)) (pss_one (ps_ret (pe_cmpR (op_eq2 hr) (pv 11) (pe_lst pa_nil) (nomark _)))) pss_nil)
      (pss_cons (ps_for PassesOwn.never rfl (pi_range1 (by rfl) T.f_range (pa_cons (pe_at (pv 4)) pa_nil)) (pg_name (i := 12) sc_LandMargin_even_held.nd rfl (Or.inl rfl)) (pss_cons (ps_if (PW.pt (pw_and (pt_cmpR op_gt (pe_ix ix_seq (pv 6) (pv 12) (fun _ _ => rfl)) pe_int (nomark _)) (pw_and1 (pt_cmpR op_lt (pe_ix ix_seq (pv 8) (pv 12) (fun _ _ => rfl)) (pv 9) (nomark _))))) (pss_one (ps_ret pe_bl)) pss_nil)
      (pss_one (ps_for PassesOwn.never rfl (pi_list (pv 11)) (pg_name (i := 10) sc_LandMargin_even_held.nd rfl (Or.inl rfl)) (pss_cons (ps_set (i := 13) sc_LandMargin_even_held.nd rfl (Or.inl rfl) (pe_tup (pa_cons (pe_op op_add2 (pe_ix ix_seq (pv 8) (pv 10) (fun _ _ => rfl)) (pv 2)) (pa_cons (pe_ix ix_seq (pv 7) (pv 10) (fun _ _ => rfl)) pa_nil))))
      (pss_one (ps_if (PW.pt (pw_and (pt_cmpR op_gt (pe_ix ix_seq (pv 6) (pv 12) (fun _ _ => rfl)) pe_int (nomark _)) (pw_and (pt_cmpR (op_ne2 hr) (pv 10) (pv 12) (nomark _)) (pw_and1 (pt_val (pe_cl (ok_passes_by T) (hr.mono (by decide)) (by rfl) T.g_passes_by (pa_cons (pv 4) (pa_cons (pv 13) (pa_cons (pe_tup (pa_cons (pe_ix ix_seq (pv 8) (pv 12) (fun _ _ => rfl)) (pa_cons (pe_op op_sub (pe_ix ix_seq (pv 7) (pv 12) (fun _ _ => rfl)) pe_int) pa_nil))) (pa_cons (pe_tup (pa_cons (pv 10) (pa_cons (pv 12) pa_nil))) pa_nil)))))))))) (pss_one (ps_ret pe_bl)) pss_nil)))))))
      (pss_one (ps_ret pe_bl))))))))), ?_⟩
  walk_at "st"
  walk_at "rd"
  refine hlm.land T s fun la hc => ?_
  walk_at "rd"
  refine hlm.land T s fun la2 hc2 => ?_
  walk_at "rd"
  have cok := hc.ok
  intro xh dxh hxh hdxh hneh
  refine ⟨F, H, xh, dxh, la2, kn, c, known, rfl, rfl, hxh, hdxh, hneh, s, hc2, hkn, hlen, fun F1 H1 x1 hh => ⟨rfl, ?_⟩⟩
  generalize hho : V.ref xh = ho at hh ⊢
  walk_at "rd"
  refine ⟨_, _, hh.me T x1.sub T.m_House_of_evening, (ok_House_of_evening T).mono (by decide), ?_⟩
  walk_at "rd"
  refine ⟨F1, ho, c, known, rfl, x1.sub, hh, nok, fun ue F2 H2 x2 hue => ?_⟩
  walk_at "rd"
  refine ⟨_, _, (x2.mono hh).me T x2.sub T.m_House_in_all, (ok_House_in_all T).mono (by decide), ?_⟩
  walk_at "rd"
  refine ⟨F2, ho, c, known, rfl, x2.sub, x2.mono hh, nok, fun us F3 H3 x3 hus => ?_⟩
  have x123 := x1.trans (x2.trans x3)
  walk_at "rd"
  refine ⟨_, _, hc.me T x123.fH T.m_Land_votes, (ok_Land_votes T).mono (by decide), ?_⟩
  walk_at "rd"
  refine ⟨F3, la, sn, c, seen, rfl, x3.sub, x123.mono hc, x123.mono hsn, fun uv F4 H4 x4 huv => ?_⟩
  have x1234 := x123.trans x4
  obtain ⟨lv, rfl, hlv⟩ := ilst_to huv
  obtain ⟨ls, rfl, hls⟩ := ilst_to (x4.mono hus)
  obtain ⟨le, rfl, hle⟩ := ilst_to (sm_mo (x3.ff.trans x4.ff) hue)
  walk_at "rd"
  refine ⟨szl (by simp), fun pt hpt => ?_⟩
  have x4 := x4.newH (o := .tup [.ref le, .ref ls, .ref lv]) hpt
  have x1234 := x123.trans x4
  refine rd_tupG (SqT.of upd_same) rfl ?_
  walk_at "rd"
  refine ⟨_, _, hc.me T x1234.fH T.m_Land_least_votes, (ok_Land_least_votes T).mono (by decide), ?_⟩
  walk_at "rd"
  refine ⟨F4, kn, known, rfl, x4.sub, x1234.mono hkn, by have := cok.a2; omega, fun H5 s5 => ?_⟩
  walk_at "rd"
  have x5 := x1234.trans (Xt.of x4.sub s5)
  refine ⟨F4, la, c.ht, c.hb, vsum known, rfl, x5.sub, .inr ⟨c, x1234.mono hc, rfl, rfl⟩, sum0.1, sum0.2, fun H6 s6 => ?_⟩
  have x6 := x5.trans (Xt.of x5.sub s6)
  have hc : IsLand K F4 la c := x1234.mono hc
  unfold heldE at q
  have hSE := hadL_bd cok known
  have hEE := outE_bd cok known
  have hSb : allL c known = ((hadL c known).1 + (outE c known).1, (hadL c known).2 + (outE c known).2) := rfl
  generalize hW : want c.ht c.hb (vsum known) = W at q ⊢
  generalize hE2 : outE c known = E2 at q hle hEE hSb
  generalize hS : allL c known = S at q hls hSb
  have hb1 : 0 ≤ E2.1 ∧ 0 ≤ E2.2 ∧ E2.1 ≤ S.1 ∧ E2.2 ≤ S.2 ∧ S.1 ≤ 30 ∧ S.2 ≤ 30 := by
    rw [hSb]
    simp only
    omega
  clear hSb hS hE2
  walk_at "rd"
  refine hc.hands T x6.sub ?_
  walk_at "rd"
  refine lc_rng (K := K) (n := 2) IntR (fun i => decide (W ≤ sel ((vtot seen).a, (vtot seen).b) i + u)) (fun i : Nat => (i : Int)) x6.sub (by decide) (fun i F5 H5 hi x Z Z0 hZ hZ0 => ?_) fun D F5 H5 x7 hD => ?_
  · walk_at "wp"
    walk_at "rd"
    refine ⟨rfl, ?_⟩
    walk_at "rd"
    refine rd_ixL (x.sl hlv) (at_sel (p := ((vtot seen).a, (vtot seen).b)) hi rfl) ?_
    walk_at "rd"
    by_cases hle : W ≤ sel ((vtot seen).a, (vtot seen).b) i + u
    · rw [if_pos (decide_eq_true hle)]
      walk_at "rd"
      exact hZ (decide_eq_true hle) _ _ _ (Xt.refl x.sub) rfl
    · rw [if_neg (by simp; omega)]
      exact hZ0 (decide_eq_false hle) _ _ (Xt.refl x.sub)
  have hlv := (x7.ff).seq hlv
  have hls := (x7.ff).seq hls
  have hle := (x7.ff).seq hle
  have hc : IsLand K F5 la c := x7.mono hc
  have x5 := x6.trans x7
  have hco : LstR K IntR F5 (.ref D) (couldL W ((vtot seen).a, (vtot seen).b) u) := hD
  walk_at "rd"
  have hT : ∀ b : Bool, (if u = 0 ∨ c.ev = 0 then true else if E2.1 + E2.2 = 0 then noneC W ((vtot seen).a, (vtot seen).b) u else coreH c.f c.st W ((vtot seen).a, (vtot seen).b) u E2 S) = b → ∀ H', Same H5 H' → Q (.bl b) H' := fun b e H' s' => by
    rw [← e]
    exact q _ (x5.hh.trans s')
  have rest : ¬ (u = 0 ∨ c.ev = 0) → True := fun _ => trivial
  by_cases h00 : u = 0
  · refine ifT h00 ?_
    walk_at "rd"
    exact hT true (if_pos (.inl h00)) _ (Same.refl _)
  refine ifF h00 ?_
  walk_at "rd"
  refine hc.evened T x5.sub ?_
  walk_at "rd"
  refine ifD (fun h01 => ?_) fun h01 => ?_
  · walk_at "rd"
    exact hT true (if_pos (.inr (by omega))) _ (Same.refl _)
  · have h0 : ¬ (u = 0 ∨ c.ev = 0) := by omega
    walk_at "rd"
    refine rd_sum (x5.sub.seq hle) ?_
    walk_at "rd"
    rw [show (I2 E2).sum = E2.1 + E2.2 by show E2.1 + (E2.2 + 0) = _; omega]
    refine ifD (fun h1 => ?_) fun h1 => ?_
    · walk_at "rd"
      refine ⟨szl (by simp), fun pn hpn => ?_⟩
      have x6 := (Xt.refl x5.sub).new (o := .lst []) hpn
      refine rd_eqD dat_int.lst (by decide) (sm_mo x6.fH hco) (y := []) ⟨pn, [], rfl, SqL.of upd_same, .nil⟩ ?_
      rw [couldL_nil]
      exact hT _ (by rw [if_neg h0, if_pos h1]) _ x6.hh
    · walk_at "rd"
      refine hc.hands T x5.sub ?_
      walk_at "rd"
      have hq : ∀ b : Bool, coreH c.f c.st W ((vtot seen).a, (vtot seen).b) u E2 S = b → ∀ H', Same H5 H' → Q (.bl b) H' := fun b e => hT b (by rw [if_neg h0, if_neg h1, e])
      refine fo_rng (n := 2) (fun b σ H' => ∃ (y8 y10 y11 : Option V), σ = [some (.ref am), some sn, some (.int u), some kn, some la, some ho, some (.ref le), some (.ref ls), some (.ref lv), some (.int W), y8, some (.ref D), y10, y11] ∧ Same H5 H' ∧ ∀ j < b, badB c.f c.st W ((vtot seen).a, (vtot seen).b) u E2 S j = false) (by decide)
        ⟨_, _, _, rfl, Same.refl _, fun j hj => absurd hj (Nat.not_lt_zero j)⟩ ?_ ?_
      · rintro b σ H6 hb ⟨y8, y10, y11, rfl, s6, hbad⟩
        have sF : Same F5 H6 := x5.sub.trans s6
        walk_at "rd"
        refine rd_ixL (sF.seq hle) (at_sel (p := E2) hb rfl) ?_
        walk_at "rd"
        have fin : ∀ H', Same H5 H' → badB c.f c.st W ((vtot seen).a, (vtot seen).b) u E2 S b = true → Q (.bl false) H' := fun H' s' e => hq false (by
          unfold coreH
          have h3 : b = 0 ∨ b = 1 := by omega
          rcases h3 with rfl | rfl <;> rw [e] <;> simp) H' s'
        by_cases hno : 0 < sel E2 b ∧ sel ((vtot seen).a, (vtot seen).b) b < W
        · refine ifT hno.1 ?_
          walk_at "rd"
          refine rd_ixL (sF.seq hlv) (at_sel (p := ((vtot seen).a, (vtot seen).b)) hb rfl) ?_
          walk_at "rd"
          refine ifT hno.2 ?_
          walk_at "rd"
          refine fin _ s6 ?_
          unfold badB
          rw [decide_eq_true hno.1, decide_eq_true hno.2]
          rfl
        · refine ifG ?_ fun d1 hG => ?_
          rotate_left
          · walk_at "rd"
            refine rd_ixL (sF.seq hlv) (at_sel (p := ((vtot seen).a, (vtot seen).b)) hb rfl) ?_
            walk_at "rd"
            refine ifF (fun z => hno ⟨d1, z⟩) ?_
            exact hG
          walk_at "rd"
          refine fo_list (R := IntR) (F := F5) (fun i σ F1 H' => ∃ (y8 y11 : Option V), σ = [some (.ref am), some sn, some (.int u), some kn, some la, some ho, some (.ref le), some (.ref ls), some (.ref lv), some (.int W), y8, some (.ref D), some (.int (b : Nat)), y11] ∧ Xt F5 H5 F1 H' ∧ ∀ j < i, (couldL W ((vtot seen).a, (vtot seen).b) u)[j]? = some ((1 - b : Nat) : Int) → badB c.f c.st W ((vtot seen).a, (vtot seen).b) u E2 S b = false) hco
            ⟨_, _, rfl, Xt.of x5.sub s6, fun j hj => absurd hj (Nat.not_lt_zero j)⟩ (fun i σ F1 H1 ⟨_, _, _, x, _⟩ => ⟨x.ff, x.sub⟩) ?_ ?_
          · rintro i a va σ F7 H7 hy e ⟨y8, y11, rfl, x7, hpre⟩
            obtain rfl : va = .int a := e
            obtain ⟨n, rfl, hn, hcould⟩ := couldL_mem hy
            walk_at "rd"
            refine rd_ixL (x7.sl hlv) (at_sel (p := ((vtot seen).a, (vtot seen).b)) hn rfl) ?_
            walk_at "rd"
            refine rd_ixL (x7.sl hls) (at_sel (p := S) hn rfl) ?_
            walk_at "rd"
            refine ⟨szl (by simp), fun p1 hp1 => ?_⟩
            have x8 := x7.new (o := .tup [.int (sel ((vtot seen).a, (vtot seen).b) n + u), .int (sel S n)]) hp1
            walk_at "rd"
            refine rd_ixL (x8.sl hle) (at_sel (p := E2) hb rfl) ?_
            walk_at "rd"
            have step : ∀ H' F' (y11 : Option V), Xt F5 H5 F' H' → (n = 1 - b → badB c.f c.st W ((vtot seen).a, (vtot seen).b) u E2 S b = false) → ∃ F, ∃ (y8 y11' : Option V), [some (.ref am), some sn, some (.int u), some kn, some la, some ho, some (.ref le), some (.ref ls), some (.ref lv), some (.int W), some (.int (n : Int)), some (.ref D), some (.int (b : Nat)), y11] = [some (.ref am), some sn, some (.int u), some kn, some la, some ho, some (.ref le), some (.ref ls), some (.ref lv), some (.int W), y8, some (.ref D), some (.int (b : Nat)), y11'] ∧ Xt F5 H5 F H' ∧ ∀ j < i + 1, (couldL W ((vtot seen).a, (vtot seen).b) u)[j]? = some ((1 - b : Nat) : Int) → badB c.f c.st W ((vtot seen).a, (vtot seen).b) u E2 S b = false := by
              intro H' F' y11 x' hx
              refine ⟨F', _, _, rfl, x', fun j hj e => ?_⟩
              by_cases hji : j = i
              · subst hji
                rw [hy] at e
                exact hx (by have := Option.some.inj e; omega)
              · exact hpre j (by omega) e
            refine ifD (fun d1 => ?_) fun d1 => ?_
            · walk_at "rd"
              by_cases d2 : (n : Int) = (b : Int)
              · refine ifNF d2 ?_
                walk_at "rd"
                refine step _ _ _ x8 fun e => ?_
                omega
              · have en : n = 1 - b := by omega
                refine ifNT d2 ?_
                walk_at "rd"
                refine rd_ixL (x8.sl hlv) (at_sel (p := ((vtot seen).a, (vtot seen).b)) hb rfl) ?_
                walk_at "rd"
                refine rd_ixL (x8.sl hls) (at_sel (p := S) hb rfl) ?_
                walk_at "rd"
                refine ⟨szl (by simp), fun p2 hp2 => ?_⟩
                have x9 := x8.new (o := .tup [.int (sel ((vtot seen).a, (vtot seen).b) b), .int (sel S b - 1)]) hp2
                walk_at "rd"
                refine ⟨szl (by simp), fun p3 hp3 => ?_⟩
                have x10 := x9.new (o := .tup [.int (n : Int), .int (b : Int)]) hp3
                walk_at "rd"
                have hsb : ∀ i : Nat, 0 ≤ sel S i ∧ sel S i ≤ 30 ∧ sel E2 i ≤ sel S i := fun i => by unfold sel; split <;> omega
                have t1 : SqT K _ p1 [.int (sel ((vtot seen).a, (vtot seen).b) n + u), .int (sel S n)] := SqT.of ((same_new (o := .tup [.int (n : Int), .int (b : Int)]) (x9.sub.free hp3)) _ _ ((same_new (o := .tup [.int (sel ((vtot seen).a, (vtot seen).b) b), .int (sel S b - 1)]) (x8.sub.free hp2)) _ _ upd_same))
                have t2 : SqT K _ p2 [.int (sel ((vtot seen).a, (vtot seen).b) b), .int (sel S b - 1)] := SqT.of ((same_new (o := .tup [.int (n : Int), .int (b : Int)]) (x9.sub.free hp3)) _ _ upd_same)
                refine ⟨_, la, .ref p1, .ref p2, .ref p3, c.f, c.st, sel ((vtot seen).a, (vtot seen).b) n + u, sel S n, sel ((vtot seen).a, (vtot seen).b) b, sel S b - 1, n, b, rfl, x10.sub, .inr ⟨c, sm_mo x10.ff hc, rfl, rfl⟩, ⟨p1, rfl, t1⟩, ⟨p2, rfl, t2⟩, ⟨p3, rfl, SqT.of upd_same⟩,
                  (hsb n).1, by have := (hsb n).2; omega, by have := (hsb b).2; omega, by have := (hsb b).2; omega, by omega, by omega, fun H11 s11 => ?_⟩
                have x11 := x10.trans (Xt.of x10.sub s11)
                walk_at "rd"
                have e : badB c.f c.st W ((vtot seen).a, (vtot seen).b) u E2 S b = pas c.f c.st (sel ((vtot seen).a, (vtot seen).b) n + u) (sel S n) (sel ((vtot seen).a, (vtot seen).b) b) (sel S b - 1) n b := by
                  unfold badB
                  rw [decide_eq_true d1, decide_eq_false (p := sel ((vtot seen).a, (vtot seen).b) b < W) (fun z => hno ⟨d1, z⟩), ← en, decide_eq_true hcould]
                  rfl
                generalize hpp : pas c.f c.st (sel ((vtot seen).a, (vtot seen).b) n + u) (sel S n) (sel ((vtot seen).a, (vtot seen).b) b) (sel S b - 1) n b = bb at e ⊢
                cases bb with
                | true =>
                  walk_at "rd"
                  exact fin _ x11.hh e
                | false =>
                  walk_at "rd"
                  exact step _ _ _ x11 fun _ => e
            · walk_at "rd"
              refine step _ _ _ x8 fun e => ?_
              unfold badB
              rw [decide_eq_false d1]
              rfl
          · rintro σ F7 H7 ⟨y8, y11, rfl, x7, hpre⟩
            refine ⟨_, _, _, rfl, x7.hh, fun j hj => ?_⟩
            by_cases hjb : j = b
            · subst hjb
              by_cases hcl : W ≤ sel ((vtot seen).a, (vtot seen).b) (1 - j) + u
              · obtain ⟨i, hi, hil⟩ := couldL_has (n := 1 - j) (by omega) hcl
                exact hpre i hil hi
              · unfold badB
                rw [decide_eq_false hcl]
                by_cases d1 : 0 < sel E2 j
                · rw [decide_eq_false (p := sel ((vtot seen).a, (vtot seen).b) j < W) (fun z => hno ⟨d1, z⟩)]
                  simp
                · rw [decide_eq_false d1]
                  rfl
            · exact hbad j (by omega)
      · rintro σ H6 ⟨y8, y10, y11, rfl, s6, hbad⟩
        walk_at "rd"
        refine hq true ?_ _ s6
        unfold coreH
        rw [hbad 0 (by decide), hbad 1 (by decide)]
        rfl
/-! ### LandMargin.held -/
def heldL (c : LCfg) (seen : List Vt) (us : List Int) (known : List Vt) : Bool := ((c.areas.zip (seen.zip (us.zip known))).all fun p => heldA p.1 p.2.1 p.2.2.1 p.2.2.2) && heldE c seen us.sum known
theorem get_some {α : Type} {xs : List α} {i : Nat} (h : i < xs.length) : ∃ y, xs[i]? = some y := ⟨xs[i], List.getElem?_eq_getElem h⟩
theorem atI_get2 {α : Type} {xs : List α} {i : Nat} {y : α} (h : xs[i]? = some y) : atI xs (i : Int) = some y := by
  have hi := (List.getElem?_eq_some_iff.mp h).1
  unfold atI ixN
  rw [if_pos (by omega), if_pos (by omega)]
  simpa using h
theorem zip4_get {α β γ δ : Type} {xs : List α} {ys : List β} {zs : List γ} {ws : List δ} {i : Nat} {p : α × β × γ × δ} : (xs.zip (ys.zip (zs.zip ws)))[i]? = some p ↔ xs[i]? = some p.1 ∧ ys[i]? = some p.2.1 ∧ zs[i]? = some p.2.2.1 ∧ ws[i]? = some p.2.2.2 := by
  rw [List.getElem?_zip_eq_some, List.getElem?_zip_eq_some, List.getElem?_zip_eq_some]
def sp_heldL (K : PySem.W.Frag) : Sp := fun vs H Q _ => ∃ (F : Hp) (v sn un kn : V) (c : LCfg) (seen known : List Vt) (us : List Int), vs = [v, sn, un, kn] ∧ Same F H ∧ IsLM K F v c ∧ LstR K (SheetR K) F sn seen ∧ ILst K F un us ∧ LstR K (SheetR K) F kn known ∧ seen.length = c.areas.length ∧ us.length = c.areas.length ∧ known.length = c.areas.length ∧ VtOk (vtot known) ∧
  ∀ H', Same H H' → Q (.bl (heldL c seen us known)) H'
theorem ok_LandMargin_held (T : Txt K mg) : Ok P w K mg base 11 (He.ma K (He.ga K "LandMargin") "held") (sp_heldL K) := by
  refine Ok.of T.fd_LandMargin_held Txt.b_LandMargin_held sc_LandMargin_held (fun vs H Q E h => ?_) fun cdv A outer s H vs Q E hr h => ?_
  · obtain ⟨_, _, _, _, _, _, _, _, _, rfl, _⟩ := h
    rfl
  obtain ⟨F, v, sn, un, kn, c, seen, known, us, rfl, s, hlm, ⟨ps, wsn, rfl, hps, hwsn⟩, ⟨pu, wun, rfl, hpu, hwun⟩, ⟨pk, wkn, rfl, hpk, hwkn⟩, l1, l2, l3, nok, q⟩ := h
  refine ⟨_, (pss_cons (ps_for PassesOwn.never rfl (pi_enum (by rfl) T.f_enumerate (pa_cons (pe_at (pv 0)) pa_nil)) (pg_tup rfl (pgs_cons (pg_name (i := 4) sc_LandMargin_held.nd rfl (Or.inl rfl)) (pgs_cons (pg_name (i := 5) sc_LandMargin_held.nd rfl (Or.inl rfl)) pgs_nil))) (pss_one (ps_if (pt_not (pt_val (pe_me (k := 7) (hr.mono (by decide)) (pv 5) (pa_cons (pe_ix ix_seq (pv 1) (pv 4) (fun _ _ => rfl)) (pa_cons (pe_ix ix_seq (pv 2) (pv 4) (fun _ _ => rfl)) (pa_cons (pe_ix ix_seq (pv 3) (pv 4) (fun _ _ => rfl)) pa_nil)))))) (pss_one (ps_ret pe_bl)) pss_nil)))
      (pss_one (ps_ret (pe_me (k := 10) (hr.mono (by decide)) (pv 0) (pa_cons (pv 1) (pa_cons (pe_callB (cr_sum rfl) (by rfl) T.f_sum (by decide +kernel) (pa_cons (pv 2) pa_nil)) (pa_cons (pv 3) pa_nil))))))), ?_⟩
  walk_at "st"
  walk_at "rd"
  refine hlm.margins T s fun ml hml => ?_
  walk_at "rd"
  refine fo_enum (R := IsMargin K) (F := F) (fun i σ F1 H1 => ∃ (y4 y5 : Option V), σ = [some v, some (.ref ps), some (.ref pu), some (.ref pk), y4, y5] ∧ Xt F H F1 H1 ∧ ∀ j < i, ∀ p, (c.areas.zip (seen.zip (us.zip known)))[j]? = some p → heldA p.1 p.2.1 p.2.2.1 p.2.2.2 = true) hml ⟨_, _, rfl, Xt.refl s, fun j hj => absurd hj (Nat.not_lt_zero j)⟩ (fun i σ F1 H1 ⟨_, _, _, x, _⟩ => ⟨x.ff, x.sub⟩) ?_ ?_
  · rintro i y m Tp σ F1 H1 hy hm ⟨y4, y5, rfl, x, hpre⟩ hT
    have hi : i < c.areas.length := (List.getElem?_eq_some_iff.mp hy).1
    have x1 := x.newH (o := .tup [.int (i : Nat), m]) hT
    refine rd_tupG (SqT.of upd_same) rfl ?_
    walk_at "rd"
    refine ⟨_, _, hm.me T x1.sub T.m_ListsMargin_held rfl, (ok_ListsMargin_held T).mono (by decide), ?_⟩
    obtain ⟨sy, hsy⟩ := get_some (xs := seen) (i := i) (by omega)
    obtain ⟨uy, huy⟩ := get_some (xs := us) (i := i) (by omega)
    obtain ⟨ky, hky⟩ := get_some (xs := known) (i := i) (by omega)
    obtain ⟨vsy, e1, r1⟩ := hwsn.get hsy
    obtain ⟨vuy, e2, r2⟩ := hwun.get huy
    obtain ⟨vky, e3, r3⟩ := hwkn.get hky
    obtain rfl : vuy = .int uy := r2
    walk_at "rd"
    refine rd_ixL (x1.sl hps) (atI_get2 e1) ?_
    walk_at "rd"
    refine rd_ixL (x1.sl hpu) (atI_get2 e2) ?_
    walk_at "rd"
    refine rd_ixL (x1.sl hpk) (atI_get2 e3) ?_
    walk_at "rd"
    refine ⟨F1, m, vsy, vky, y, sy, ky, uy, rfl, x1.sub, hm, sm_mo x.ff r1, sm_mo x.ff r3, fun H2 s2 => ?_⟩
    have x2 := x1.trans (Xt.of x1.sub s2)
    have hz : (c.areas.zip (seen.zip (us.zip known)))[i]? = some (y, sy, uy, ky) := zip4_get.mpr ⟨hy, hsy, huy, hky⟩
    walk_at "rd"
    generalize hb : heldA y sy uy ky = b
    cases b with
    | false =>
      walk_at "rd"
      have e : heldL c seen us known = false := by
        unfold heldL
        rw [List.all_eq_false.mpr ⟨_, List.mem_of_getElem? hz, by rw [hb]; exact Bool.false_ne_true⟩]
        rfl
      rw [e] at q
      exact q _ x2.hh
    | true =>
      walk_at "rd"
      refine ⟨F1, _, _, rfl, x2, fun j hj p hp => ?_⟩
      by_cases hji : j = i
      · subst hji
        rw [hz] at hp
        cases hp
        exact hb
      · exact hpre j (by omega) p hp
  · rintro σ F1 H1 ⟨y4, y5, rfl, x, hpre⟩
    have hall : ((c.areas.zip (seen.zip (us.zip known))).all fun p => heldA p.1 p.2.1 p.2.2.1 p.2.2.2) = true := by
      refine List.all_eq_true.mpr fun p hp => ?_
      obtain ⟨j, hj, e⟩ := List.getElem_of_mem hp
      have hz : (c.areas.zip (seen.zip (us.zip known)))[j]? = some p := by rw [List.getElem?_eq_getElem hj, e]
      exact hpre j (List.getElem?_eq_some_iff.mp (zip4_get.mp hz).1).1 p hz
    walk_at "rd"
    refine ⟨_, _, (x.mono hlm).me T x.sub T.m_LandMargin_even_held rfl, (ok_LandMargin_even_held T).mono (by decide), ?_⟩
    walk_at "rd"
    refine rd_sum (x.sl (all2_int hwun ▸ hpu)) ?_
    walk_at "rd"
    refine ⟨F1, v, .ref ps, .ref pk, c, seen, known, us.sum, rfl, x.sub, x.mono hlm, x.mono ⟨ps, wsn, rfl, hps, hwsn⟩, x.mono ⟨pk, wkn, rfl, hpk, hwkn⟩, l3, nok, fun H2 s2 => ?_⟩
    unfold heldL at q
    rw [hall] at q
    exact q _ (x.hh.trans s2)
end
end Wp


set_option Elab.async false
set_option linter.all false
set_option maxRecDepth 100000
set_option maxHeartbeats 4000000
namespace Wp
open PySem PySem.Spec PyProof.Rows L2
/-! ### sorted of rows: pairs of a tuple of ints and an int -/
section
variable {prog : Program} {w : World} {A : Around} {s : Shared}
def RowV (prog : Program) (w : World) (h : Heap) (v : Value) : Prop := ∃ (a q : Addr) (k : List Int) (n : Int) (t : Tok), v = .ref a ∧ IsTup h a #[.ref q, .int n t] ∧ IsTupleKey (mixKind prog w) h (k.map Sum.inl) q
theorem RowV.keeps {h h' : Heap} {v : Value} (x : RowV prog w h v) (k : ∀ b o, h.get? b = some o → o.cls = .type "tuple" → h'.get? b = some o) : RowV prog w h' v := by
  obtain ⟨a, q, ks, n, t, e, ⟨o, ho, hc, r⟩, ⟨o3, it3, n3, ho3, hc3, r3⟩⟩ := x
  exact ⟨a, q, ks, n, t, e, ⟨o, k _ _ ho hc, hc, r⟩, ⟨o3, it3, n3, k _ _ ho3 hc3, hc3, r3⟩⟩
theorem items_int {k : List Int} {vs : List Value} (h : ItemsAre (mixKind prog w) (k.map Sum.inl) vs) : ∀ (j : Nat) (hj : j < vs.length), ∃ t, vs[j] = .int (k.getD j 0) t := by
  generalize hk : k.map (Sum.inl (β := Str)) = ks at h
  induction h generalizing k with
  | nil => intro j hj; exact absurd hj (Nat.not_lt_zero j)
  | @cons a v ks vs r _ ih =>
    intro j hj
    cases k with
    | nil => cases hk
    | cons i k =>
      rw [List.map_cons] at hk
      obtain ⟨rfl, hk2⟩ := List.cons.inj hk
      cases j with
      | zero =>
        rcases keyIs_shape (show keyIs (Sum.inl i) v = true from r) with ⟨i', t, e1, e2⟩ | ⟨x, t, e1, e2⟩
        · cases e1
          exact ⟨t, e2⟩
        · cases e1
      | succ j => exact ih hk2 j (Nat.lt_of_succ_lt_succ hj)
theorem row_tot {vs : List Value} (hu : A.units + 1 < cLine) (hp : ∀ v ∈ vs, RowV prog w s.heap v) : Srt.Tot prog w A s (tuples' false) (fun p => p.1 ∈ vs) := by
  intro p q hm hm'
  obtain ⟨a, q1, k, n, t, e, ⟨o, ho, hc, m, hd⟩, hk⟩ := hp _ hm
  obtain ⟨a', q1', k', n', t', e', ⟨o', ho', hc', m', hd'⟩, hk'⟩ := hp _ hm'
  rw [e, e']
  obtain ⟨o1, it1, x1, ho1, hc1, hd1, hi1⟩ := id hk
  obtain ⟨o2, it2, x2, ho2, hc2, hd2, hi2⟩ := id hk'
  refine ⟨if k.map (Sum.inl (β := Str)) = k'.map Sum.inl then (if n = n' then false else decide (n < n')) else Ob.lexAt (fun j => decide (k.getD j 0 = k'.getD j 0)) (fun j => decide (k.getD j 0 < k'.getD j 0)) (decide (it1.size < it2.size)) 0 (min it1.size it2.size), ?_⟩
  refine PySem.W.kat_lt ho hd ho' hd' ?_
  show PySem.W.KatLex prog w A false (decide (2 < 2)) _ [(.ref q1, .ref q1'), (.int n t, .int n' t')] 0 s
  refine PySem.W.kat_cons (wpAny_eqBool_tuple (Nat.lt_of_succ_lt hu) hk hk' ?_)
  refine PySem.W.kat_go (fun e1 => ?_) (fun e1 => ?_)
  · have ex := of_decide_eq_true e1
    refine PySem.W.kat_yes (PySem.W.kat_cons (SeqAt.EqAt.int_int n t n' t' prog w _ _ ?_))
    refine PySem.W.kat_go (fun e2 => ?_) (fun e2 => ?_)
    · have ey : n = n' := by simpa using e2
      exact PySem.W.kat_yes (PySem.W.kat_nil ⟨rfl, by rw [if_pos ex, if_pos ey]; rfl⟩)
    · have ey : ¬ n = n' := by simpa using e2
      refine PySem.W.kat_no (PySem.W.kat_one _ _ (PyProof.Rows.lt_int ?_))
      exact (show s = s ∧ _ from ⟨rfl, by rw [if_pos ex, if_neg ey]⟩)
  · have ex := of_decide_eq_false e1
    refine PySem.W.kat_no (PySem.W.kat_one _ _ ?_)
    have lt := Ob.RcOp.tuples_lt (A := A) (s := s) (l := q1) (b := q1') (items := it1) (items2 := it2) (e := fun j => decide (k.getD j 0 = k'.getD j 0)) (r := fun j => decide (k.getD j 0 < k'.getD j 0))
      ⟨o1, ho1, hc1, x1, hd1⟩ ⟨o2, ho2, hc2, x2, hd2⟩ (Nat.lt_of_succ_lt hu) (fun j h1 h2 => ?_) (fun j h1 h2 _ => ?_)
    · exact lt prog w _ _ (show s = s ∧ _ from ⟨rfl, by rw [if_neg ex]⟩)
    · obtain ⟨u1, e1⟩ := items_int hi1 j (by simpa using h1)
      obtain ⟨u2, e2⟩ := items_int hi2 j (by simpa using h2)
      simp only [Array.getElem_toList] at e1 e2
      rw [e1, e2]
      exact SeqAt.EqAt.int_int _ _ _ _
    · obtain ⟨u1, e1⟩ := items_int hi1 j (by simpa using h1)
      obtain ⟨u2, e2⟩ := items_int hi2 j (by simpa using h2)
      simp only [Array.getElem_toList] at e1 e2
      rw [e1, e2]
      exact Ob.RcOp.lt_int _ _ _ _
theorem rows_firsts {h : Heap} : ∀ {vs : List Value}, (∀ v ∈ vs, RowV prog w h v) → ∃ fs : List Value, PySem.W.KatTups h vs fs ∧ fs.length = vs.length ∧ ∀ f ∈ fs, ∃ (q : Addr) (o : Obj), f = Value.ref q ∧ h.get? q = some o ∧ o.cls = .type "tuple"
  | [], _ => ⟨[], PySem.W.KatTups.nil, rfl, fun _ hm => by simp at hm⟩
  | v :: vs, hp => by
    obtain ⟨fs, h1, h2, h3⟩ := rows_firsts (vs := vs) fun v' hm => hp v' (List.mem_cons_of_mem _ hm)
    obtain ⟨a, q, k, n, t, rfl, ⟨o, ho, hc, m, hd⟩, ⟨o1, it1, x1, ho1, hc1, hd1, hi1⟩⟩ := hp v (List.mem_cons_self ..)
    refine ⟨.ref q :: fs, PySem.W.KatTups.cons ho hc hd rfl h1, by rw [List.length_cons, List.length_cons, h2], fun f hm => ?_⟩
    rcases List.mem_cons.mp hm with rfl | hm
    · exact ⟨q, o1, rfl, ho1, hc1⟩
    · exact h3 f hm
theorem rows_sortable {a : Addr} {vs : List Value} (hu : A.units + 1 < cLine) (h0 : 0 < vs.length) (hp : ∀ v ∈ vs, RowV prog w s.heap v) (ha : ∀ o, s.heap.get? a = some o → o.cls ≠ .type "tuple") : Srt.Sortable prog w A s a vs := by
  intro h' keep
  have hp' : ∀ v ∈ vs, RowV prog w h' v := fun v hm => (hp v hm).keeps fun b o e c => keep b o (fun z => by subst z; exact ha o e c) e
  obtain ⟨fs, h1, h2, h3⟩ := rows_firsts hp'
  refine ⟨tuples' false, fun Q E hq => ?_, row_tot (s := { s with heap := h' }) hu hp'⟩
  refine PySem.W.kat_kind (T := .type "tuple") h1 (by omega) (fun f hm => ?_) (by rfl) ?_
  · obtain ⟨q, o, rfl, ho, hc⟩ := h3 f hm
    have z : PySem.W.Looks (model prog w) h' (typeOf (.ref q)) o.cls := (PySem.W.Looks.ld ho).andThen .now
    rw [hc] at z
    exact z
  · have e : (Value.type "tuple" != Value.type "tuple") = false := by first | decide +kernel | rfl | decide
    rw [e]
    exact hq
theorem sorted_rows {E : Value → Shared → Prop} {l : Addr} {vs : List Value} {Q : Value → Shared → Prop} (hu : A.units + 3 < cLine) (hl : s.heap.IsList l vs.toArray) (hz : vs.length ≤ sizeLine) (hp : ∀ v ∈ vs, RowV prog w s.heap v)
    (h : ∀ (h' : Heap) (d : Addr) (out : List Value), out.Perm vs → (∀ b o, s.heap.get? b = some o → h'.get? b = some o) → s.heap.objs.size ≤ d → (∃ n, h'.get? d = some (seqObj "list" out.toArray n)) → Q (.ref d) { s with heap := h' }) :
    wpAny (model prog w) A (call (.builtin "sorted") [.ref l]) Q E s := by
  refine Srt.sorted_any hl hz (fun h2 h₁ a ha k => ?_) fun out ho => ?_
  · refine rows_sortable (s := { s with heap := h₁ }) hu (by omega) (fun v hm => (hp v hm).keeps fun b o e _ => (k b o e).2) fun o e => ?_
    have e' : some o = some (seqObj "list" vs.toArray 0) := e.symm.trans ha
    cases e'
    intro c
    exact absurd (Value.type.inj c) (by decide)
  · exact h _ _ out ho (fun b o e => PyProof.Rows.sortedAll_old e) (Nat.le_succ _) (PyProof.Rows.sortedAll_at s.heap vs out.toArray)
end
/-- a row, as it was laid -/
def RowT (H : Hp) (x : V) : Prop := ∃ (t q : Addr) (k : List Int) (n : Int), x = .ref t ∧ H t = some (.tup [.ref q, .int n]) ∧ H q = some (.tup (k.map .int))
section
variable {X : Cx} {pins : List (Addr × Obj)} {σ : L2.St} {H : Hp} {s : Shared}
theorem kV_inl (k : List Int) : (k.map (Sum.inl (β := Str))).map kV = k.map V.int := by
  rw [List.map_map]
  rfl
theorem rowV_of {t q : Addr} {k : List Int} {n : Int} (I : Inv X pins σ H s) (h1 : H t = some (.tup [.ref q, .int n])) (h2 : H q = some (.tup (k.map .int))) : RowV X.prog X.w s.heap (.ref t) := by
  obtain ⟨_, its, rv, o, ho, hc, m, hd⟩ := (show ObjOk X.prog X.w H s.heap t (.tup [.ref q, .int n]) from I.hok t _ h1)
  obtain ⟨u1, u2, rfl, r1, r2⟩ := vals2 rv
  cases r1
  obtain ⟨tk, rfl⟩ := r2
  rw [← kV_inl] at h2
  exact ⟨t, q, k, n, tk, rfl, ⟨o, ho, hc, m, hd⟩, key_of I.hok h2⟩
def rSortL (K : PySem.W.Frag) : List V → Hp → VK → Prop := fun vs H Q => ∃ (a : Addr) (xs : List V), vs = [.ref a] ∧ SqL K H a xs ∧ (∀ x ∈ xs, RowT H x) ∧ ∀ p ys, H p = none → ys.Perm xs → Q (.ref p) (upd H p (.lst ys))
theorem cr_sortedRowsL {k : Nat} (hr : Room k X.A) : CallR X (.builtin "sorted") (rSortL X.K) := by
  intro pins s σ H vs us Q I r h
  obtain ⟨a, xs, rfl, hs, hx, q⟩ := h
  obtain ⟨its, rv, hl, hz⟩ := I.list hs
  obtain ⟨u, rfl, ru⟩ := vals1 r
  obtain rfl : u = Value.ref a := ru
  obtain ⟨e1, e2⟩ := refs_back rv fun x m => by
    obtain ⟨t, _, _, _, e, _⟩ := hx x m
    exact ⟨t, e⟩
  have hu : X.A.units + 3 < cLine := by
    have := hr.units
    have := cLine_is
    omega
  refine sorted_rows hu hl.isList (by rw [← rv.length]; exact hz) (fun v hv => ?_) fun h' d out h2 kp hd hn => ?_
  · obtain ⟨t, rfl⟩ := e2 v hv
    have hm : V.ref t ∈ xs := by rw [e1]; exact List.mem_map.mpr ⟨_, hv, rfl⟩
    obtain ⟨t', q', k', n', e, h1, h2⟩ := hx _ hm
    cases e
    exact rowV_of I h1 h2
  · have h3 : ∀ u ∈ out, ∃ a, u = Value.ref a := fun u hu => e2 u (h2.mem_iff.mp hu)
    obtain ⟨n, hn⟩ := hn
    have hb : (out.map backV).Perm xs := by
      rw [e1]
      exact h2.map backV
    refine ⟨.ref d, upd H d (.lst (out.map backV)), I.laid (t' := s.toks) kp hd ⟨?_, out, n, vals_back h3, hn⟩, rfl, q d _ (I.hok.fresh hd) hb⟩
    rw [hb.length_eq]
    exact hz
/-- sorted(d.items()), d from tuples of ints to ints -/
abbrev entI (e : List Int × Int) : List L2.Key × V := (e.1.map Sum.inl, V.int e.2)
def rSortI : List V → Hp → VK → Prop := fun vs H Q => ∃ (p a : Addr) (ks : List (List Int × Int)), vs = [.ref p] ∧ H p = some (L2.DX.itemsO p a) ∧ H a = some (.dT (ks.map entI)) ∧
  ∀ (H' : Hp) (l : Addr) (ps : List (Addr × List Int × Int)), Same H H' → H l = none → (ps.map (·.2)).Perm ks → H' l = some (.lst (ps.map fun z => V.ref z.1)) →
    (∀ z ∈ ps, ∃ q, H' z.1 = some (.tup [.ref q, .int z.2.2]) ∧ H' q = some (.tup (z.2.1.map .int))) → Q (.ref l) H'
theorem cr_sortedRows {k : Nat} (hc : X.calm = true) (hr : Room k X.A) : CallR X (.builtin "sorted") rSortI := by
  intro pins s σ H xs us Q I r h
  obtain ⟨p, a, ks, rfl, hp, ha, q⟩ := h
  obtain rfl := Vals.ref1 r
  have hu : X.A.units + 3 < cLine := by
    have := hr.units
    have := cLine_is
    omega
  have view : s.heap.IsItemsView p a := (show ObjOk X.prog X.w H s.heap p (L2.DX.itemsO p a) from I.hok p _ hp).1
  obtain ⟨z, hd, xs', rel, o, es, ep, ho, hx, hdat, hes, his, hn⟩ := dt_of I.hok ha
  have l1 : (ks.map entI).length = xs'.length := Paired.length rel
  rw [List.length_map] at l1 z
  have l2 : es.size = xs'.length := size_of_entries hes
  have hh : X.A.handled = none := I.ok.hd hc
  refine DT.sortedI (es := es) (ep := ep) hh view ⟨o, ho, hx, hdat⟩ (by omega) fun h' tk as hk hlt hl hG => ?_
  have lak : as.length = ks.length := by omega
  have nd : as.Nodup := List.Pairwise.imp (fun h => Nat.ne_of_lt h) hG.rise
  have pr : ∀ (j : Nat) (b : Addr), as[j]? = some b → ∃ (e : List Int × Int) (kq : Addr) (t : Tok), ks[j]? = some e ∧ H kq = some (.tup (e.1.map .int)) ∧ h'.get? b = some { cls := .type "tuple", data := .seq #[Value.ref kq, Value.int e.2 t] } := by
    intro j b hj
    obtain ⟨en, he, hg⟩ := hG.pairs j b hj
    rw [entry_at hes j] at he
    cases hxj : xs'[j]? with
    | none =>
      rw [hxj] at he
      exact nomatch (show (none : Option DictEntry) = some en from he)
    | some x =>
      rw [hxj] at he
      have een : entryOfKey (tupleKind (mixKind X.prog X.w)) x = en := Option.some.inj he
      obtain ⟨e0, he0, r1, r2, r3⟩ := L2.DX.pget rel hxj
      rw [List.getElem?_map] at he0
      cases hkj : ks[j]? with
      | none =>
        rw [hkj] at he0
        exact nomatch (show (none : Option (List L2.Key × V)) = some e0 from he0)
      | some e =>
        rw [hkj] at he0
        have ee : entI e = e0 := Option.some.inj he0
        rw [← ee] at r2 r3
        rw [kV_inl] at r2
        obtain ⟨t, r3'⟩ := (show ∃ t, x.2.2 = Value.int e.2 t from r3)
        refine ⟨e, x.2.1, t, rfl, r2, ?_⟩
        rw [hg, ← een, ← r3']
        all_goals rfl
  have hob : (h'.push { cls := .type "list", data := .seq (as.map Value.ref).toArray }).get? h'.objs.size = some (seqObj "list" (as.map Value.ref).toArray 0) := Heap.get?_push_size _ rfl
  have kb : ∀ b o, s.heap.get? b = some o → (h'.push { cls := .type "list", data := .seq (as.map Value.ref).toArray }).get? b = some o := fun b o e => Heap.get?_push_of_some _ (hk b o e)
  have ne0 : ∀ b o, h'.get? b = some o → b ≠ h'.objs.size := fun b o e => Nat.ne_of_lt (Heap.lt_size e)
  generalize hh2 : h'.push { cls := .type "list", data := .seq (as.map Value.ref).toArray } = h2 at hob kb ⊢
  have ka : ∀ b o, h'.get? b = some o → h2.get? b = some o := fun b o e => by rw [← hh2]; exact Heap.get?_push_of_some _ e
  have hrow : ∀ v ∈ as.map Value.ref, RowV X.prog X.w h2 v := by
    intro v hv
    obtain ⟨b, hb, rfl⟩ := List.mem_map.mp hv
    obtain ⟨j, hj⟩ := List.mem_iff_getElem?.mp hb
    obtain ⟨e, kq, t, he, hkq, hg⟩ := pr j b hj
    rw [← kV_inl] at hkq
    obtain ⟨ov, iv, nv, hov, hcv, hdv, hiv⟩ := (show IsTupleKey (mixKind X.prog X.w) s.heap (e.1.map Sum.inl) kq from key_of I.hok hkq)
    exact ⟨b, kq, e.1, e.2, t, rfl, ⟨_, ka _ _ hg, rfl, 0, rfl⟩, ⟨ov, iv, nv, kb _ _ hov, hcv, hdv, hiv⟩⟩
  refine wpAny_call_entry PyProof.Rows.slot_list_sort ⟨_, hob, rfl⟩ PyProof.Rows.entry_list_sort
    (Srt.list_sort_any (s := { s with heap := h2, toks := tk }) (vs := as.map Value.ref) hob (by rw [List.length_map]; omega) (fun h2' => rows_sortable (s := { s with heap := h2, toks := tk }) (by show X.A.units + 1 + 1 + 1 < cLine; omega) (by omega) hrow fun o e => ?_) fun out o2 => ⟨.none, rfl, ?_⟩) (PyProof.Rows.args_list_sort _)
  · have e' : some o = some (seqObj "list" (as.map Value.ref).toArray 0) := e.symm.trans hob
    cases e'
    intro c
    exact absurd (Value.type.inj c) (by decide)
  · show EP X pins σ Q (.ref h'.objs.size) { s with heap := sortedHeap h2 h'.objs.size (as.map Value.ref) out.toArray, toks := tk }
    obtain ⟨zs, pz, ez⟩ := perm_lift (fun z : Addr × List Int × Int => Value.ref z.1) o2 (as.zip ks) (by
      rw [show (fun z : Addr × List Int × Int => Value.ref z.1) = Value.ref ∘ Prod.fst from rfl, ← List.map_map, List.map_fst_zip (by omega)])
    have idx : ∀ z ∈ zs, ∃ j : Nat, as[j]? = some z.1 ∧ ks[j]? = some z.2 := by
      intro z' hz'
      obtain ⟨j, hj⟩ := List.mem_iff_getElem?.mp (pz.mem_iff.mp hz')
      exact ⟨j, List.getElem?_zip_eq_some.mp hj⟩
    have hperm : (zs.map (·.2)).Perm ks := by
      have e := pz.map (·.2)
      have m2 : (as.zip ks).map (·.2) = ks := List.map_snd_zip (by rw [lak]; exact Nat.le_refl _)
      rw [m2] at e
      exact e
    have kF : ∀ b o, b ≠ h'.objs.size → h2.get? b = some o → (sortedHeap h2 h'.objs.size (as.map Value.ref) out.toArray).get? b = some o := fun b o hb e => (PyProof.Rows.sortedHeap_old hb (Heap.lt_size e)).trans e
    have kS : ∀ b o, s.heap.get? b = some o → (sortedHeap h2 h'.objs.size (as.map Value.ref) out.toArray).get? b = some o := fun b o e => kF b o (ne0 _ _ (hk b o e)) (kb b o e)
    obtain ⟨eF, heF⟩ := PyProof.Rows.sortedHeap_at (vs := as.map Value.ref) (out := out.toArray) hob
    have I1 : Inv X pins σ H { s with heap := sortedHeap h2 h'.objs.size (as.map Value.ref) out.toArray, toks := tk } := I.kept (t' := tk) kS
    have hn0 : H h'.objs.size = none := I.hok.fresh (Nat.le_of_lt hlt)
    have hlen : (zs.map fun z => V.ref z.1).length ≤ sizeLine := by
      have e := hperm.length_eq
      rw [List.length_map] at e
      rw [List.length_map]
      omega
    have rv : Vals (zs.map fun z => V.ref z.1) out := by
      rw [← ez]
      exact vals_maps (fun z : Addr × List Int × Int => V.ref z.1) (fun z => Value.ref z.1) zs fun _ _ => rfl
    have I2 : Inv X pins σ (upd H h'.objs.size (.lst (zs.map fun z => V.ref z.1))) { s with heap := sortedHeap h2 h'.objs.size (as.map Value.ref) out.toArray, toks := tk } :=
      I1.take (h' := sortedHeap h2 h'.objs.size (as.map Value.ref) out.toArray) (t' := tk) (fun b ob _ e => e) (I.fpOk (Nat.le_of_lt hlt) hn0) ⟨hlen, out, eF, rv, heF⟩
    obtain ⟨H2, I3, g, qt⟩ := L2.DX.takeT (P := fun b vs => ∃ (j : Nat) (e : List Int × Int) (kq : Addr), as[j]? = some b ∧ ks[j]? = some e ∧ vs = [.ref kq, .int e.2] ∧ H kq = some (.tup (e.1.map .int))) I as _ I2 nd fun b hb => by
      obtain ⟨j, hj⟩ := List.mem_iff_getElem?.mp hb
      obtain ⟨e, kq, t, he, hkq, hg⟩ := pr j b hj
      have hbl : s.heap.objs.size ≤ b := Nat.le_of_lt (hG.above b hb)
      refine ⟨hbl, ?_, [.ref kq, .int e.2], ⟨j, e, kq, hj, he, rfl, hkq⟩, fun H3 => ⟨(by rw [sizeLine_eq]; show 2 ≤ 16777216; omega), [Value.ref kq, Value.int e.2 t], .cons rfl (.cons ⟨t, rfl⟩ .nil), ⟨_, kF _ _ (ne0 _ _ hg) (ka _ _ hg), rfl, 0, rfl⟩⟩⟩
      rw [upd_ne (ne0 _ _ hg)]
      exact I.hok.fresh hbl
    have gr : ∀ b o, H b = some o → H2 b = some o := fun b o e => g b o (by rw [upd_ne (ne_of_none e hn0)]; exact e)
    refine ⟨.ref h'.objs.size, H2, I3, rfl, q H2 h'.objs.size zs gr hn0 hperm (g _ _ upd_same) fun z' hz' => ?_⟩
    obtain ⟨i, i1, i2⟩ := idx z' hz'
    obtain ⟨vs, ⟨j, e, kq, j1, j2, ev, hkq⟩, hH⟩ := qt z'.1 (List.mem_of_getElem? i1)
    have eij : i = j := (List.getElem?_inj (List.getElem?_eq_some_iff.mp i1).1 nd).mp (i1.trans j1.symm)
    subst eij
    have ee : e = z'.2 := Option.some.inj (j2.symm.trans i2)
    rw [ev, ee] at hH
    rw [ee] at hkq
    exact ⟨kq, hH, gr _ _ hkq⟩
end
end Wp


set_option Elab.async false
set_option linter.all false
set_option maxRecDepth 100000
set_option maxHeartbeats 4000000
namespace Wp
open PySem PySem.Spec PyProof.Rows L2
local macro_rules | `(tactic| walk_at "rd") => `(tactic| repeat (first
  | ((with_reducible apply rd_var); · exact rfl)
  | with_reducible refine rd_c ?_ | with_reducible refine rd_op ?_ | with_reducible refine rd_un ?_ | with_reducible refine rd_test ?_ | with_reducible refine rd_B ?_ | with_reducible refine rd_bl ?_
  | with_reducible refine rd_and ?_ | with_reducible refine rd_or ?_ | with_reducible refine rd_not ?_ | with_reducible refine rd_andV ?_ | with_reducible refine rd_orV ?_ | with_reducible refine rd_notV ?_ | with_reducible refine rd_ifE ?_
  | with_reducible refine rd_seq ?_ | with_reducible refine rd_asg ?_ | ((with_reducible apply rd_name); · (simp only [List.set_cons_zero, List.set_cons_succ]; exact rfl)) | with_reducible refine rd_ret ?_ | with_reducible refine rd_drop ?_ | with_reducible refine rd_if ?_ | with_reducible refine rd_next ?_ | with_reducible refine rd_break ?_ | with_reducible refine rd_cont ?_
  | with_reducible refine rd_cl ?_ | with_reducible refine rd_cb ?_ | with_reducible refine rd_mk ?_ | with_reducible refine rd_cons ?_ | with_reducible refine rd_nil ?_ | with_reducible refine rd_tup ?_ | with_reducible refine rd_lst ?_ | with_reducible refine rd_at ?_ | with_reducible refine rd_gAt ?_
  | with_reducible refine rd_isN ?_ | with_reducible refine rd_notN ?_ | with_reducible refine rd_abs ?_ | with_reducible refine rd_max ?_ | with_reducible refine rd_int ?_ | with_reducible refine rd_intB ?_ | with_reducible refine rd_consG ?_ | with_reducible refine rd_nilG ?_ | with_reducible refine rd_ipI ?_ | ((with_reducible apply rd_aug); · exact rfl)
  | with_reducible refine rd_par ?_ | with_reducible refine rd_par3 ?_ | ((with_reducible apply rd_parQ); · (simp only [List.set_cons_zero, List.set_cons_succ]; exact rfl)) | ((with_reducible apply rd_par3Q); · (simp only [List.set_cons_zero, List.set_cons_succ]; exact rfl))
  | with_reducible refine rd_yes ?_ | with_reducible refine rd_chain ?_ | with_reducible refine rd_bm ?_ | with_reducible refine rd_bm0 ?_ | with_reducible refine rd_me ?_ | with_reducible refine rd_augS ?_ | with_reducible refine rd_subG ?_ | with_reducible refine rd_forR ?_ | with_reducible refine rd_sl ?_ | with_reducible refine rd_part ?_ | with_reducible refine rd_partQ ?_ | with_reducible refine rd_noPart ?_ | with_reducible refine rd_lstRg ?_ | with_reducible refine rd_forL ?_ | with_reducible refine rd_forE ?_ | with_reducible refine rd_forZ ?_ | with_reducible refine rd_lcL ?_ | with_reducible refine rd_lcR ?_ | with_reducible refine rd_lcE ?_ | with_reducible refine rd_lcZ ?_ | with_reducible refine rd_while ?_
  | with_reducible refine iteT ?_ | with_reducible refine iteF ?_ | with_reducible refine ifNotT ?_ | with_reducible refine ifNotF ?_ | with_reducible refine rd_I0 ?_ | with_reducible refine rd_U ?_ | with_reducible refine rd_add ?_ | with_reducible refine rd_eqI ?_ | with_reducible refine rd_neI ?_ | with_reducible refine rd_eqB ?_))
local macro_rules | `(tactic| walk_at "st") => `(tactic| (intro σ hσ; simp only [L2.start, List.map_cons, List.map_nil, List.length_cons, List.length_nil, List.reduceReplicate, List.replicate_zero, List.append_nil, Nat.reduceAdd, Nat.reduceSub, List.cons_append, List.nil_append] at hσ; subst hσ; try dsimp only [cxOf, Cx.nox, Cx.wish]))
local macro_rules | `(tactic| walk_at "wp") => `(tactic| (simp only [List.map_cons, List.map_nil, wipe, List.set_cons_zero, List.set_cons_succ]))
theorem hu_of {X : Cx} {k : Nat} (hr : Room k X.A) : X.A.units + 1 < cLine := by
  have := hr.units
  have := cLine_is
  omega
theorem rd_dput {td ty tv : TE} {D : Ends} {σ : L2.St} {H : Hp} (h : tv σ H fun v H1 => td σ H1 fun x H2 => ty σ H2 fun y H3 => ∃ a H4, x = .ref a ∧ DPut H3 a y v H4 ∧ D.nx σ H4) : sDPut td ty tv D σ H := h
theorem rd_dget {td ty tx : TE} {σ : L2.St} {H : Hp} {Q : VK} (h : td σ H fun x H1 => ∃ a, x = .ref a ∧ IsD H1 a ∧ ty σ H1 fun y H2 => tx σ H2 fun z H3 => ∃ o, DGet H3 a y o ∧ Q (o.getD z) H3) : tDGet2 td ty tx σ H Q := h
/-! ### the dict of put_together, in lists -/
def lookI (ks : List Row) (s : List Int) : Option Int := (ks.find? fun k => decide (k.1 = s)).map (·.2)
def putI (ks : List Row) (s : List Int) (n : Int) : List Row := if (ks.any fun k => decide (k.1 = s)) = true then ks.map (fun k => if k.1 = s then (k.1, n) else k) else ks ++ [(s, n)]
theorem inl_inj {a b : List Int} : a.map (Sum.inl (β := Str)) = b.map Sum.inl ↔ a = b := by
  refine ⟨fun h => ?_, fun h => by rw [h]⟩
  induction a generalizing b with
  | nil => cases b with
    | nil => rfl
    | cons => cases h
  | cons x a ih => cases b with
    | nil => cases h
    | cons y b =>
      rw [List.map_cons, List.map_cons] at h
      obtain ⟨h1, h2⟩ := List.cons.inj h
      rw [Sum.inl.inj h1, ih h2]
theorem valV_ent (ks : List Row) (s : List Int) : valV (ks.map entI) (s.map Sum.inl) = (lookI ks s).map V.int := by
  induction ks with
  | nil => rfl
  | cons k ks ih =>
    rw [List.map_cons]
    by_cases h : k.1 = s
    · rw [valV_pos (show (entI k).1 = s.map Sum.inl by rw [← h])]
      unfold lookI
      rw [List.find?_cons, decide_eq_true h]
      rfl
    · rw [valV_neg (show ¬ (entI k).1 = s.map Sum.inl from fun e => h (inl_inj.mp e)), ih]
      unfold lookI
      rw [List.find?_cons, decide_eq_false h]
theorem putK_ent (ks : List Row) (s : List Int) (n : Int) : putK (ks.map entI) (s.map Sum.inl) (.int n) = (putI ks s n).map entI := by
  unfold putK putI
  have e : ((ks.map entI).any fun kv => decide (kv.1 = s.map Sum.inl)) = ks.any fun k => decide (k.1 = s) := by
    rw [List.any_map]
    congr 1
    funext k
    exact decide_eq_decide.mpr inl_inj
  rw [e]
  split
  · rw [List.map_map, List.map_map]
    refine List.map_congr_left fun k _ => ?_
    show (if k.1.map Sum.inl = s.map Sum.inl then _ else _) = entI (if k.1 = s then _ else _)
    by_cases h : k.1 = s
    · rw [if_pos (inl_inj.mpr h), if_pos h]
    · rw [if_neg (fun z => h (inl_inj.mp z)), if_neg h]
  · rw [List.map_append]
    rfl
theorem num_none {ks : List Row} {s : List Int} (h : ∀ k ∈ ks, k.1 ≠ s) : num s ks = 0 := by
  induction ks with
  | nil => rfl
  | cons k ks ih =>
    rw [num_cons, if_neg (h k List.mem_cons_self), ih fun x hx => h x (List.mem_cons_of_mem _ hx)]
    rfl
theorem look_num {ks : List Row} (nd : (ks.map (·.1)).Nodup) (s : List Int) : (lookI ks s).getD 0 = num s ks := by
  induction ks with
  | nil => rfl
  | cons k ks ih =>
    rw [List.map_cons, List.nodup_cons] at nd
    unfold lookI
    rw [List.find?_cons, num_cons]
    by_cases h : k.1 = s
    · rw [decide_eq_true h, if_pos h, num_none fun x hx e => nd.1 (by rw [h, ← e]; exact List.mem_map_of_mem hx)]
      exact (Int.add_zero _).symm
    · rw [decide_eq_false h, if_neg h, Int.zero_add]
      exact ih nd.2
theorem put_keys (ks : List Row) (s : List Int) (n : Int) : (putI ks s n).map (·.1) = if (ks.any fun k => decide (k.1 = s)) = true then ks.map (·.1) else ks.map (·.1) ++ [s] := by
  unfold putI
  split
  · rw [List.map_map]
    refine List.map_congr_left fun k _ => ?_
    show (if k.1 = s then (k.1, n) else k).1 = k.1
    split <;> rfl
  · rw [List.map_append]
    rfl
theorem put_nodup {ks : List Row} (nd : (ks.map (·.1)).Nodup) (s : List Int) (n : Int) : ((putI ks s n).map (·.1)).Nodup := by
  rw [put_keys]
  split
  · exact nd
  · rename_i h
    rw [List.nodup_append]
    refine ⟨nd, List.pairwise_singleton _ _, fun a ha b hb e => ?_⟩
    rw [List.mem_singleton.mp hb] at e
    subst e
    obtain ⟨k, hk, e⟩ := List.mem_map.mp ha
    exact h (List.any_eq_true.mpr ⟨k, hk, decide_eq_true e⟩)
theorem put_mem {ks : List Row} {s : List Int} {n : Int} {k : Row} (h : k ∈ putI ks s n) : k ∈ ks ∨ k = (s, n) := by
  unfold putI at h
  split at h
  · obtain ⟨x, hx, e⟩ := List.mem_map.mp h
    split at e
    · rename_i hs
      exact .inr (by rw [← e, hs])
    · exact .inl (by rw [← e]; exact hx)
  · rcases List.mem_append.mp h with h | h
    · exact .inl h
    · exact .inr (List.mem_singleton.mp h)
theorem num_map_put {ks : List Row} (nd : (ks.map (·.1)).Nodup) (s s' : List Int) (n : Int) : num s' (ks.map (fun k => if k.1 = s then (k.1, n) else k)) = if s' = s ∧ s ∈ ks.map (·.1) then n else num s' ks := by
  induction ks with
  | nil => simp [num]
  | cons k ks ih =>
    rw [List.map_cons, List.nodup_cons] at nd
    rw [List.map_cons, num_cons, ih nd.2, num_cons]
    by_cases h : k.1 = s
    · have hns : s ∉ ks.map (·.1) := by rw [← h]; exact nd.1
      by_cases h2 : s' = s
      · subst h2
        have h0 : num s' ks = 0 := num_none fun x hx e => hns (by rw [← e]; exact List.mem_map_of_mem hx)
        simp [h, h0, hns]
      · have h3 : ¬ s = s' := fun e => h2 e.symm
        simp [h, h2, h3]
    · by_cases h2 : s' = s
      · subst h2
        by_cases hm : s' ∈ ks.map (·.1)
        · have : s' ∈ (k :: ks).map (·.1) := List.mem_cons_of_mem _ hm
          simp [h, hm]
        · have : ¬ s' = k.1 := fun e => h e.symm
          simp [h, hm, this]
      · simp [h, h2]
theorem num_put {ks : List Row} (nd : (ks.map (·.1)).Nodup) (s s' : List Int) (n : Int) : num s' (putI ks s n) = if s' = s then n else num s' ks := by
  unfold putI
  split
  · rename_i h
    obtain ⟨k, hk, e⟩ := List.any_eq_true.mp h
    have hm : s ∈ ks.map (·.1) := List.mem_map.mpr ⟨k, hk, of_decide_eq_true e⟩
    rw [num_map_put nd]
    by_cases h2 : s' = s
    · rw [if_pos ⟨h2, hm⟩, if_pos h2]
    · rw [if_neg (fun z => h2 z.1), if_neg h2]
  · rename_i h
    rw [num_append, num_one]
    by_cases h2 : s' = s
    · subst h2
      rw [if_pos rfl, if_pos rfl, num_none fun k hk e => h (List.any_eq_true.mpr ⟨k, hk, decide_eq_true e⟩), Int.zero_add]
    · rw [if_neg h2]
      show num s' ks + (if s = s' then n else 0) = _
      rw [if_neg fun e => h2 e.symm, Int.add_zero]
theorem num_perm {a b : List Row} (h : a.Perm b) (s : List Int) : num s a = num s b := by
  induction h with
  | nil => rfl
  | cons x _ ih => rw [num_cons, num_cons, ih]
  | swap x y l => rw [num_cons, num_cons, num_cons, num_cons]; omega
  | trans _ _ i1 i2 => rw [i1, i2]
theorem num_filter (s : List Int) (rows : List Row) : num s (rows.filter fun r => !decide (r.2 = 0)) = num s rows := by
  induction rows with
  | nil => rfl
  | cons r rows ih =>
    rw [List.filter_cons]
    by_cases h : r.2 = 0
    · rw [if_neg (by simp [h]), num_cons, ih, h]
      split <;> omega
    · rw [if_pos (by simp [h]), num_cons, num_cons, ih]
theorem three_keys {ks : List Row} (nd : (ks.map (·.1)).Nodup) (hs : ∀ r ∈ ks, r.1 = [1] ∨ r.1 = [2] ∨ r.1 = []) : ks.length ≤ 3 := by
  match ks, nd, hs with
  | [], _, _ => exact Nat.zero_le _
  | [_], _, _ => exact by simp
  | [_, _], _, _ => exact by simp
  | [_, _, _], _, _ => exact by simp
  | a :: b :: c :: d :: r, nd, hs =>
    exfalso
    have ha := hs a (by simp)
    have hb := hs b (by simp)
    have hc := hs c (by simp)
    have hd := hs d (by simp)
    simp only [List.map_cons, List.nodup_cons, List.mem_cons, not_or] at nd
    obtain ⟨⟨n1, n2, n3, _⟩, ⟨n4, n5, _⟩, ⟨n6, _⟩, _⟩ := nd
    rcases ha with ha | ha | ha <;> rcases hb with hb | hb | hb <;> rcases hc with hc | hc | hc <;> rcases hd with hd | hd | hd <;> simp_all
section
variable {P : Program} {w : World} {K : PySem.W.Frag} {mg : Str → Option Value} {base : Heap}
/-! ### rows as they were laid -/
def RowX : Hp → V → Row → Prop := fun F v r => ∃ t q, v = .ref t ∧ F t = some (.tup [.ref q, .int r.2]) ∧ F q = some (.tup (r.1.map .int))
instance : Mono RowX := ⟨fun s h => by
  obtain ⟨t, q, e, h1, h2⟩ := h
  exact ⟨t, q, e, s _ _ h1, s _ _ h2⟩⟩
theorem RowX.row {F : Hp} {v : V} {r : Row} (h : RowX F v r) : RowR K F v r := by
  obtain ⟨t, q, e, h1, h2⟩ := h
  exact ⟨t, .ref q, .int r.2, e, SqT.of h1, ⟨q, rfl, SqT.of h2⟩, rfl⟩
def SheetX : Hp → V → Vt → Prop := fun F v n => ∃ a vs rows, v = .ref a ∧ F a = some (.lst vs) ∧ All2 (RowX F) vs rows ∧ RowsOk rows ∧ rows.length ≤ 10 ∧ vtOf rows = n
instance : Mono SheetX := ⟨fun s h => by
  obtain ⟨a, vs, rows, e, h1, h2, h3, h4, h5⟩ := h
  exact ⟨a, vs, rows, e, s _ _ h1, h2.imp fun _ _ r => Mono.mono s r, h3, h4, h5⟩⟩
theorem SheetX.sheet {F : Hp} {v : V} {n : Vt} (h : SheetX F v n) : SheetR K F v n := by
  obtain ⟨a, vs, rows, e, h1, h2, h3, h4, h5⟩ := h
  exact ⟨rows, ⟨a, vs, e, SqL.of h1, h2.imp fun _ _ r => r.row⟩, h3, h5⟩
/-! ### put_together -/
def sp_put_together (K : PySem.W.Frag) : Sp := fun vs H Q _ => ∃ (F : Hp) (l : Addr) (ws : List V) (rows : List Row), vs = [.ref l] ∧ Same F H ∧ H l = some (.lst ws) ∧ All2 (RowX F) ws rows ∧ RowsOk rows ∧ ∀ u F' H', Xt F H F' H' → SheetR K F' u (vtOf rows) → Q u H'
theorem ok_put_together (T : Txt K mg) : Ok P w K mg base 1 (He.ga K "put_together") (sp_put_together K) := by
  refine Ok.of T.fd_put_together Txt.b_put_together sc_put_together (fun vs H Q E h => ?_) fun cdv A outer s H vs Q E hr h => ?_
  · obtain ⟨_, _, _, _, rfl, _⟩ := h
    rfl
  obtain ⟨F, l, ws, rows, rfl, s, hl, ha, hok, q⟩ := h
  refine ⟨_, (pss_cons (ps_set (i := 1) sc_put_together.nd rfl (Or.inl rfl) pe_dnewT)
      (pss_cons (ps_for PassesOwn.never rfl (pi_list (pv 0)) (pg_tup rfl (pgs_cons (pg_name (i := 2) sc_put_together.nd rfl (Or.inl rfl)) (pgs_cons (pg_name (i := 3) sc_put_together.nd rfl (Or.inl rfl)) pgs_nil))) (pss_one (ps_dput (hu_of hr) (pv 1) (pv 2) (pe_op op_add2 (pe_dget2 (hu_of hr) (pv 1) (pv 2) pe_int ⟨by rfl, by rfl, by rfl, by rfl⟩) (pv 3)) (by rfl))))
      (pss_one (ps_ret (pe_lc rfl sc_put_together.nd (pi_list (pe_callB (cr_sortedRows rfl hr) (by rfl) T.f_sorted (by decide +kernel) (pa_cons (pe_bm0 PySem.F.plainAttrs_dict PySem.F.slot_dict_items PySem.F.type_dict_items DX.mt_itemsT (pv 1)) pa_nil))) (blkOk_by (own := [("line", 4)]) (N := ["lines", "many", "slip", "number", "line"]) (sc := (defScope s_put_together)) (by decide +kernel)) (fun _ _ _ _ _ => (pg_name (i := 4) sc_put_together.nd rfl (Or.inl rfl))) (fun _ _ _ _ _ => (pts_one (pt_cmpR (ne2K (K := K) rfl hr) (pe_ix (ixK (K := K) rfl) (pv 4) pe_int (fun _ _ => rfl)) pe_int (nomark _)))) (fun _ _ _ _ _ => (pv 4))))))), ?_⟩
  walk_at "st"
  walk_at "rd"
  intro D hD
  have m : Mkg F H F (upd H D (.dT [])) D (.dT []) := ⟨(Xt.refl s).newH hD, s.free hD, hD, upd_same⟩
  walk_at "rd"
  refine ⟨l, rfl, ⟨ws, SqL.of (m.x.hh _ _ hl)⟩, ?_⟩
  have la := ha.length
  have hrl := hok.l
  have slipI : ∀ s : List Int, (s.map V.int) = (s.map (Sum.inl (β := Str))).map kV := fun s => by rw [List.map_map]; rfl
  refine for_list (xs := ws) (fun i σ H' => ∃ (y2 y3 y4 : Option V) (ks : List Row), σ = [some (.ref l), some (.ref D), y2, y3, y4] ∧ Mkg F H F H' D (.dT (ks.map entI)) ∧ (ks.map (·.1)).Nodup ∧ (∀ r ∈ ks, r.1 = [1] ∨ r.1 = [2] ∨ r.1 = []) ∧ (∀ r ∈ ks, 0 ≤ r.2) ∧ ∀ s, num s ks = num s (rows.take i))
    ⟨_, _, _, [], rfl, m, List.nodup_nil, fun r h => (nomatch h), fun r h => (nomatch h), fun s => rfl⟩ (fun i σ H' _ ⟨_, _, _, _, _, m, _⟩ => SqL.of (m.x.hh _ _ hl)) ?_ ?_
  · rintro i v σ H' hv ⟨y2, y3, y4, ks, rfl, m, nd, hs, hn, hnum⟩
    obtain ⟨r, hr, t, q1, rfl, ht, hq1⟩ := ha.getL hv
    have hrm := List.mem_of_getElem? hr
    refine rd_tupG (SqT.of (m.x.sub _ _ ht)) rfl ?_
    walk_at "rd"
    refine rd_dput ?_
    walk_at "rd"
    have hq1' : H' q1 = some (.tup ((r.1.map (Sum.inl (β := Str))).map kV)) := by
      rw [← slipI]
      exact m.x.sub _ _ hq1
    refine rd_dget ?_
    walk_at "rd"
    refine ⟨D, rfl, .inr ⟨_, .inl m.e⟩, ?_⟩
    walk_at "rd"
    refine ⟨_, DGet.t m.e hq1', ?_⟩
    rw [valV_ent]
    have e : ((lookI ks r.1).map V.int).getD (.int 0) = .int (num r.1 ks) := by
      rw [← look_num nd]
      cases lookI ks r.1 <;> rfl
    rw [e]
    walk_at "rd"
    refine ⟨D, _, rfl, DPut.t m.e hq1' ?_, ?_⟩
    · rw [List.length_map]
      exact Nat.lt_of_le_of_lt (three_keys nd hs) (small1000 (by decide))
    rw [putK_ent]
    refine ⟨_, _, _, putI ks r.1 (num r.1 ks + r.2), rfl, m.set, put_nodup nd _ _, fun x hx => ?_, fun x hx => ?_, fun s => ?_⟩
    · rcases put_mem hx with h | rfl
      · exact hs x h
      · exact hok.s r hrm
    · rcases put_mem hx with h | rfl
      · exact hn x h
      · have := num_nn (rows := ks) r.1 hn
        have := hok.n r hrm
        show 0 ≤ num r.1 ks + r.2
        omega
    · rw [num_put nd, take_snoc hr, num_append, num_one, hnum, hnum]
      by_cases h : s = r.1
      · subst h
        rw [if_pos rfl, if_pos rfl]
      · rw [if_neg h, if_neg (fun z => h z.symm), Int.add_zero]
  · rintro σ H' ⟨y2, y3, y4, ks, rfl, m, nd, hs, hn, hnum⟩
    rw [la, List.take_length] at hnum
    walk_at "rd"
    refine ⟨.inr (.inr (.inl ⟨rfl, .inr ⟨_, m.e⟩⟩)), ?_⟩
    refine ⟨D, _, rfl, rfl, m.e, fun p hp => ?_⟩
    walk_at "rd"
    have x2 := m.x.newH (o := L2.DX.itemsO p D) hp
    refine ⟨p, D, ks, rfl, upd_same, (same_new hp) _ _ m.e, fun H2 l2 ps s2 hl2 hperm hL hps => ?_⟩
    have x3 := x2.all s2
    have hrows : LstR K (RowR K) (allT F (upd H' p (L2.DX.itemsO p D)) H2) (.ref l2) (ps.map (·.2)) := by
      refine ⟨l2, _, rfl, SqL.of (allT_new hl2 hL), ?_⟩
      have gen : ∀ qs : List (Addr × List Int × Int), (∀ z ∈ qs, z ∈ ps) → All2 (RowR K (allT F (upd H' p (L2.DX.itemsO p D)) H2)) (qs.map fun z => V.ref z.1) (qs.map (·.2)) := by
        intro qs
        induction qs with
        | nil => intro _; exact .nil
        | cons z qs ih =>
          intro h
          refine .cons ?_ (ih fun x hx => h x (List.mem_cons_of_mem _ hx))
          obtain ⟨q1, h1, h2⟩ := hps z (h z List.mem_cons_self)
          exact RowX.row ⟨z.1, q1, rfl, allT_tup s2 h1, allT_tup s2 h2⟩
      exact gen ps fun z hz => hz
    have hlen : (ps.map (·.2)).length ≤ 3 := by
      rw [hperm.length_eq]
      exact three_keys nd hs
    refine lc_list (R := RowR K) (RowR K) (fun r : Row => !decide (r.2 = 0)) (fun r => r) hrows x3.sub (by omega) (fun i y F1 H3 v hy x hv Z Z0 hZ hZ0 => ?_) fun D2 F1 H3 x4 hD2 => ?_
    · walk_at "wp"
      obtain ⟨a, v1, v2, rfl, ht, h1, h2⟩ := id hv
      obtain rfl : v2 = .int y.2 := h2
      walk_at "rd"
      refine ⟨rfl, ?_⟩
      walk_at "rd"
      refine rd_ixT (sm_t x.sub ht) rfl ?_
      walk_at "rd"
      by_cases h : y.2 = 0
      · refine ifNF h ?_
        exact hZ0 (by simp [h]) _ _ (Xt.refl x.sub)
      · refine ifNT h ?_
        walk_at "rd"
        exact hZ (by simp [h]) _ _ _ (Xt.refl x.sub) hv
    · walk_at "rd"
      rw [List.map_id'] at hD2
      refine q _ _ _ (x3.trans x4) ⟨_, hD2, ⟨fun r hr => ?_, fun r hr => ?_, ?_, ?_⟩, ?_⟩
      · exact hs r (hperm.mem_iff.mp (List.mem_filter.mp hr).1)
      · exact hn r (hperm.mem_iff.mp (List.mem_filter.mp hr).1)
      · exact Nat.le_trans (List.length_filter_le _ _) (by omega)
      · rw [tot_split (fun r hr => hs r (hperm.mem_iff.mp (List.mem_filter.mp hr).1)), num_filter, num_filter, num_filter, num_perm hperm, num_perm hperm, num_perm hperm, hnum, hnum, hnum, ← tot_split hok.s]
        exact hok.t
      · unfold vtOf
        rw [num_filter, num_filter, num_filter, num_perm hperm, num_perm hperm, num_perm hperm, hnum, hnum, hnum]
end
end Wp


set_option Elab.async false
set_option linter.all false
set_option maxRecDepth 100000
set_option maxHeartbeats 4000000
namespace Wp
open PySem PySem.Spec PyProof.Rows L2
local macro_rules | `(tactic| walk_at "rd") => `(tactic| repeat (first
  | ((with_reducible apply rd_var); · exact rfl)
  | with_reducible refine rd_c ?_ | with_reducible refine rd_op ?_ | with_reducible refine rd_un ?_ | with_reducible refine rd_test ?_ | with_reducible refine rd_B ?_ | with_reducible refine rd_bl ?_
  | with_reducible refine rd_and ?_ | with_reducible refine rd_or ?_ | with_reducible refine rd_not ?_ | with_reducible refine rd_andV ?_ | with_reducible refine rd_orV ?_ | with_reducible refine rd_notV ?_ | with_reducible refine rd_ifE ?_
  | with_reducible refine rd_seq ?_ | with_reducible refine rd_asg ?_ | ((with_reducible apply rd_name); · (simp only [List.set_cons_zero, List.set_cons_succ]; exact rfl)) | with_reducible refine rd_ret ?_ | with_reducible refine rd_drop ?_ | with_reducible refine rd_if ?_ | with_reducible refine rd_next ?_ | with_reducible refine rd_break ?_ | with_reducible refine rd_cont ?_
  | with_reducible refine rd_cl ?_ | with_reducible refine rd_cb ?_ | with_reducible refine rd_mk ?_ | with_reducible refine rd_cons ?_ | with_reducible refine rd_nil ?_ | with_reducible refine rd_tup ?_ | with_reducible refine rd_lst ?_ | with_reducible refine rd_at ?_ | with_reducible refine rd_gAt ?_
  | with_reducible refine rd_isN ?_ | with_reducible refine rd_notN ?_ | with_reducible refine rd_abs ?_ | with_reducible refine rd_max ?_ | with_reducible refine rd_int ?_ | with_reducible refine rd_intB ?_ | with_reducible refine rd_consG ?_ | with_reducible refine rd_nilG ?_ | with_reducible refine rd_ipI ?_ | ((with_reducible apply rd_aug); · exact rfl)
  | with_reducible refine rd_par ?_ | with_reducible refine rd_par3 ?_ | ((with_reducible apply rd_parQ); · (simp only [List.set_cons_zero, List.set_cons_succ]; exact rfl)) | ((with_reducible apply rd_par3Q); · (simp only [List.set_cons_zero, List.set_cons_succ]; exact rfl))
  | with_reducible refine rd_yes ?_ | with_reducible refine rd_chain ?_ | with_reducible refine rd_bm ?_ | with_reducible refine rd_bm0 ?_ | with_reducible refine rd_me ?_ | with_reducible refine rd_augS ?_ | with_reducible refine rd_subG ?_ | with_reducible refine rd_forR ?_ | with_reducible refine rd_sl ?_ | with_reducible refine rd_part ?_ | with_reducible refine rd_partQ ?_ | with_reducible refine rd_noPart ?_ | with_reducible refine rd_lstRg ?_ | with_reducible refine rd_forL ?_ | with_reducible refine rd_forE ?_ | with_reducible refine rd_forZ ?_ | with_reducible refine rd_lcL ?_ | with_reducible refine rd_lcR ?_ | with_reducible refine rd_lcE ?_ | with_reducible refine rd_lcZ ?_ | with_reducible refine rd_while ?_
  | with_reducible refine iteT ?_ | with_reducible refine iteF ?_ | with_reducible refine ifNotT ?_ | with_reducible refine ifNotF ?_ | with_reducible refine rd_I0 ?_ | with_reducible refine rd_U ?_ | with_reducible refine rd_add ?_ | with_reducible refine rd_eqI ?_ | with_reducible refine rd_neI ?_ | with_reducible refine rd_eqB ?_))
local macro_rules | `(tactic| walk_at "st") => `(tactic| (intro σ hσ; simp only [L2.start, List.map_cons, List.map_nil, List.length_cons, List.length_nil, List.reduceReplicate, List.replicate_zero, List.append_nil, Nat.reduceAdd, Nat.reduceSub, List.cons_append, List.nil_append] at hσ; subst hσ; try dsimp only [cxOf, Cx.nox, Cx.wish]))
local macro_rules | `(tactic| walk_at "wp") => `(tactic| (simp only [List.map_cons, List.map_nil, wipe, List.set_cons_zero, List.set_cons_succ]))
/-! ### bundles -/
abbrev Bun := Nat × Vt
structure VtS (v : Vt) : Prop where
  a0 : 0 ≤ v.a
  b0 : 0 ≤ v.b
  i0 : 0 ≤ v.i
  m : v.sum ≤ 10
def BOk (bs : List Bun) : Prop := bs.length ≤ 10 ∧ ∀ b ∈ bs, VtS b.2
def areaSum (bs : List Bun) (i : Nat) : Vt := vtot ((bs.filter fun b => decide (b.1 = i)).map (·.2))
def shs (m : Nat) (bs : List Bun) : List Vt := (List.range m).map (areaSum bs)
def pick (lot : Nat) (bs : List Bun) : List Bun := (((List.range bs.length).zip bs).filter fun p => lot.testBit p.1).map (·.2)
theorem vtot_cons (n : Vt) (ns : List Vt) : vtot (n :: ns) = vadd n (vtot ns) := by
  have gen : ∀ (ns : List Vt) (z : Vt), ns.foldl vadd z = vadd z (vtot ns) := by
    intro ns
    induction ns with
    | nil => intro z; simp [vtot, vadd]
    | cons m ns ih =>
      intro z
      unfold vtot
      rw [List.foldl_cons, List.foldl_cons, ih, ih]
      simp only [vadd, Vt.mk.injEq]
      omega
  unfold vtot
  rw [List.foldl_cons, gen]
  simp only [vadd, vtot, Vt.mk.injEq]
  omega
theorem vtot_okS : ∀ {ns : List Vt}, (∀ n ∈ ns, VtS n) → 0 ≤ (vtot ns).a ∧ 0 ≤ (vtot ns).b ∧ 0 ≤ (vtot ns).i ∧ (vtot ns).sum ≤ 10 * (ns.length : Int)
  | [], _ => by decide
  | n :: ns, h => by
    have ih := vtot_okS (ns := ns) fun x hx => h x (List.mem_cons_of_mem _ hx)
    have h0 := h n List.mem_cons_self
    have := h0.a0; have := h0.b0; have := h0.i0; have := h0.m
    rw [vtot_cons, vadd_sum, List.length_cons]
    simp only [vadd]
    omega
theorem vtot_ok {ns : List Vt} (h : ∀ n ∈ ns, VtS n) (l : ns.length ≤ 10) : VtOk (vtot ns) := by
  obtain ⟨h1, h2, h3, h4⟩ := vtot_okS h
  exact ⟨h1, h2, h3, by omega⟩
theorem areaSum_ok {bs : List Bun} (h : BOk bs) (i : Nat) : VtOk (areaSum bs i) ∧ (areaSum bs i).sum ≤ 100 := by
  have hm : ∀ n ∈ (bs.filter fun b => decide (b.1 = i)).map (·.2), VtS n := fun n hn => by
    obtain ⟨b, hb, rfl⟩ := List.mem_map.mp hn
    exact h.2 b (List.mem_filter.mp hb).1
  have hl : ((bs.filter fun b => decide (b.1 = i)).map (·.2)).length ≤ 10 := by
    rw [List.length_map]
    exact Nat.le_trans (List.length_filter_le _ _) h.1
  refine ⟨vtot_ok hm hl, ?_⟩
  have := (vtot_okS hm).2.2.2
  unfold areaSum
  omega
theorem pick_sub {lot : Nat} {bs : List Bun} {b : Bun} (h : b ∈ pick lot bs) : b ∈ bs := by
  unfold pick at h
  obtain ⟨p, hp, rfl⟩ := List.mem_map.mp h
  exact (List.of_mem_zip (List.mem_filter.mp hp).1).2
theorem pick_ok {lot : Nat} {bs : List Bun} (h : BOk bs) : BOk (pick lot bs) := by
  refine ⟨?_, fun b hb => h.2 b (pick_sub hb)⟩
  unfold pick
  rw [List.length_map]
  refine Nat.le_trans (List.length_filter_le _ _) ?_
  rw [List.length_zip]
  have := h.1
  omega
section
variable {P : Program} {w : World} {K : PySem.W.Frag} {mg : Str → Option Value} {base : Heap}
/-! ### joined -/
def sp_joined (K : PySem.W.Frag) : Sp := fun vs H Q _ => ∃ (F : Hp) (v : V) (ns : List Vt), vs = [v] ∧ Same F H ∧ LstR K SheetX F v ns ∧ ns.length ≤ 10 ∧ VtOk (vtot ns) ∧ (∀ n ∈ ns, VtS n) ∧ ∀ u F' H', Xt F H F' H' → SheetR K F' u (vtot ns) → Q u H'
theorem ok_joined (T : Txt K mg) : Ok P w K mg base 2 (He.ga K "joined") (sp_joined K) := by
  refine Ok.of T.fd_joined Txt.b_joined sc_joined (fun vs H Q E h => ?_) fun cdv A outer s H vs Q E hr h => ?_
  · obtain ⟨_, _, _, rfl, _⟩ := h
    rfl
  obtain ⟨F, v, ns, rfl, s, hv, hl, hok, hS, q⟩ := h
  refine ⟨_, (pss_cons (ps_set (i := 1) sc_joined.nd rfl (Or.inl rfl) (pe_lst pa_nil))
      (pss_cons (ps_for PassesOwn.never rfl (pi_list (pv 0)) (pg_name (i := 2) sc_joined.nd rfl (Or.inl rfl)) (pss_one (ps_expr (pe_bm PySem.F.plainAttrs_list PySem.F.slot_list_extend PySem.F.type_list_extend mt_extend (pv 1) (pa_cons (pv 2) pa_nil)))))
      (pss_one (ps_ret (pe_cl (ok_put_together T) (hr.mono (by decide)) (by rfl) T.g_put_together (pa_cons (pv 1) pa_nil)))))), ?_⟩
  walk_at "st"
  walk_at "rd"
  refine ⟨szl (by simp), fun p hp => ?_⟩
  have o : Own F H F _ p [] := Own.mk' (Xt.refl s) hp
  walk_at "rd"
  refine fo_list (R := SheetX) (fun i σ F1 H1 => ∃ (y2 : Option V) (acc : List V) (rows : List Row), σ = [some v, some (.ref p), y2] ∧ Xt F H F1 H1 ∧ Own F H F1 H1 p acc ∧ All2 (RowX F1) acc rows ∧ (∀ r ∈ rows, r.1 = [1] ∨ r.1 = [2] ∨ r.1 = []) ∧ (∀ r ∈ rows, 0 ≤ r.2) ∧ rows.length ≤ 10 * i ∧ i ≤ ns.length ∧ vtOf rows = vtot (ns.take i)) hv
    ⟨_, [], [], rfl, o.x, o, .nil, fun r h => (nomatch h), fun r h => (nomatch h), Nat.zero_le _, Nat.zero_le _, rfl⟩ (fun i σ F1 H1 ⟨_, _, _, _, x, _⟩ => ⟨x.ff, x.sub⟩) ?_ ?_
  · rintro i n sv σ F1 H1 hy ⟨a, vs, rs, rfl, ha, hrs, rok, rl, rn⟩ ⟨y2, acc, rows, rfl, x, o, hacc, hs, hn, hlen, hi, hvt⟩
    have hil := (List.getElem?_eq_some_iff.mp hy).1
    walk_at "rd"
    refine ⟨ty_list (SqL.of o.e), ?_⟩
    walk_at "rd"
    have l1 := hacc.length
    have l2 := hrs.length
    refine ⟨p, a, acc, vs, rfl, rfl, o.e, x.sub _ _ ha, szl (by omega), ?_⟩
    refine ⟨F1, _, acc ++ vs, rows ++ rs, rfl, (o.set (acc' := acc ++ vs)).x, o.set, hacc.append hrs, fun r hr => ?_, fun r hr => ?_, by rw [List.length_append]; omega, hil, ?_⟩
    · rcases List.mem_append.mp hr with h | h
      · exact hs r h
      · exact rok.s r h
    · rcases List.mem_append.mp hr with h | h
      · exact hn r h
      · exact rok.n r h
    · rw [take_snoc hy, vtot_snoc, ← hvt, ← rn]
      unfold vtOf vadd
      rw [num_append, num_append, num_append]
  · rintro σ F1 H1 ⟨y2, acc, rows, rfl, x, o, hacc, hs, hn, hlen, hi, hvt⟩
    rw [List.take_length] at hvt
    walk_at "rd"
    refine ⟨F1, p, acc, rows, rfl, x.sub, o.e, hacc, ⟨hs, hn, by omega, ?_⟩, fun u F2 H2 x2 hu => ?_⟩
    · rw [tot_split hs]
      have := hok.m
      rw [← hvt] at this
      exact this
    · rw [hvt] at hu
      exact q _ _ _ (x.trans x2) hu
/-! ### sheets_by -/
def NatR : Hp → V → Nat → Prop := fun _ v n => v = .int (n : Int)
instance : Mono NatR := ⟨fun _ h => h⟩
def BunR (K : PySem.W.Frag) : Hp → V → Bun → Prop := Tup2 K NatR SheetX
instance : Mono (BunR K) := inferInstanceAs (Mono (Tup2 K NatR SheetX))
def sp_sheets_by (K : PySem.W.Frag) : Sp := fun vs H Q _ => ∃ (F : Hp) (v bu : V) (c : LCfg) (bs : List Bun), vs = [v, bu] ∧ Same F H ∧ IsLand K F v c ∧ LstR K (BunR K) F bu bs ∧ BOk bs ∧ ∀ u F' H', Xt F H F' H' → LstR K (SheetR K) F' u (shs c.areas.length bs) → Q u H'
theorem ok_sheets_by (T : Txt K mg) : Ok P w K mg base 3 (He.ga K "sheets_by") (sp_sheets_by K) := by
  refine Ok.of T.fd_sheets_by Txt.b_sheets_by sc_sheets_by (fun vs H Q E h => ?_) fun cdv A outer s H vs Q E hr h => ?_
  · obtain ⟨_, _, _, _, _, rfl, _⟩ := h
    rfl
  obtain ⟨F, v, bu, c, bs, rfl, s, hc, hb, hok, q⟩ := h
  refine ⟨_, (pss_one (ps_ret (pe_lc rfl sc_sheets_by.nd (pi_range1 (by rfl) T.f_range (pa_cons (pe_callB call_lenN (by rfl) T.f_len PySem.boot_len (pa_cons (pe_at (pv 0)) pa_nil)) pa_nil)) (blkOk_by (own := [("area", 2)]) (N := ["land", "bundles", "area", "at", "sheet"]) (sc := (defScope s_sheets_by)) (by decide +kernel)) (fun _ _ _ _ _ => (pg_name (i := 2) sc_sheets_by.nd rfl (Or.inr rfl))) (fun _ _ _ _ _ => pts_nil) (fun _ _ _ _ _ => (pe_cl (ok_joined T) (hr.mono (by decide)) (by rfl) T.g_joined (pa_cons (pe_lc rfl sc_sheets_by.nd (listK (K := K) rfl (pv 1)) (blkOk_by (own := [("at", 3), ("sheet", 4)]) (N := ["land", "bundles", "area", "at", "sheet"]) (sc := ({ kind := .function, names := [(PySem.Str.ofString ".0", .local), (PySem.Str.ofString "area", .cell), (PySem.Str.ofString "joined", .globalImplicit), (PySem.Str.ofString "bundles", .cell)], isGenerator := false, isCoroutine := false, more := [] } : Scope)) (by decide +kernel)) (fun _ _ _ _ _ => (pg_tupK (K := K) (n := 2) rfl rfl (pgs_cons (pg_name (i := 3) sc_sheets_by.nd rfl (Or.inl rfl)) (pgs_cons (pg_name (i := 4) sc_sheets_by.nd rfl (Or.inl rfl)) pgs_nil)))) (fun _ _ _ _ _ => (pts_one (pt_cmpR (eq2K (K := K) rfl hr) (pv 3) (pv 2) (nomark _)))) (fun _ _ _ _ _ => (pv 4))) pa_nil)))))), ?_⟩
  walk_at "st"
  walk_at "rd"
  refine hc.areas T s fun l hl => ?_
  obtain ⟨al, avs, e, hal, haa⟩ := hl
  cases e
  have hlen := haa.length
  have ha2 := hc.ok.a2
  walk_at "rd"
  refine rd_lenL (s.seq hal) ?_
  walk_at "rd"
  refine lc_rng (K := K) (n := avs.length) (SheetR K) (fun _ => true) (fun i : Nat => areaSum bs i) s (by omega) (fun i F1 H1 hi x Z Z0 hZ _ => ?_) fun D F1 H1 x1 hD => ?_
  · walk_at "wp"
    walk_at "rd"
    refine ⟨rfl, ?_⟩
    walk_at "rd"
    refine lc_list (R := BunR K) SheetX (fun b : Bun => decide (b.1 = i)) (fun b => b.2) (x.mono hb) x.sub (by have := hok.1; omega) (fun j y F2 H2 v hy x2 hv Z' Z0' hZ' hZ0' => ?_) fun D2 F2 H2 x2 hD2 => ?_
    · obtain ⟨a, v1, v2, rfl, ht, h1, h2⟩ := hv
      obtain rfl : v1 = .int (y.1 : Int) := h1
      walk_at "wp"
      refine rd_tupG (sm_t x2.sub ht) rfl ?_
      walk_at "rd"
      refine ⟨rfl, ?_⟩
      walk_at "rd"
      by_cases h : y.1 = i
      · refine ifT (by omega) ?_
        walk_at "rd"
        exact hZ' (by simp [h]) _ _ _ (Xt.refl x2.sub) h2
      · refine ifF (by omega) ?_
        exact hZ0' (by simp [h]) _ _ (Xt.refl x2.sub)
    · walk_at "rd"
      have hm : ∀ n ∈ (bs.filter fun b => decide (b.1 = i)).map (fun b => b.2), VtS n := fun n hn => by
        obtain ⟨b, hb, rfl⟩ := List.mem_map.mp hn
        exact hok.2 b (List.mem_filter.mp hb).1
      have hl : ((bs.filter fun b => decide (b.1 = i)).map (fun b => b.2)).length ≤ 10 := by
        rw [List.length_map]
        exact Nat.le_trans (List.length_filter_le _ _) hok.1
      exact ⟨F2, .ref D2, _, rfl, x2.sub, hD2, hl, vtot_ok hm hl, hm, fun u F3 H3 x3 hu => hZ rfl _ _ _ (x2.trans x3) hu⟩
  · walk_at "rd"
    rw [filtT, hlen] at hD
    exact q _ _ _ x1 hD
/-! ### settles -/
def settlesB (c : LCfg) (bs : List Bun) (lot : Nat) : Bool := heldL c (shs c.areas.length (pick lot bs)) (((shs c.areas.length bs).zip (shs c.areas.length (pick lot bs))).map fun p => p.1.sum - p.2.sum) (shs c.areas.length bs)
def sp_settles (K : PySem.W.Frag) : Sp := fun vs H Q _ => ∃ (F : Hp) (v bu : V) (c : LCfg) (bs : List Bun) (lot : Nat), vs = [v, bu, .int (lot : Int)] ∧ Same F H ∧ IsLand K F v c ∧ LstR K (BunR K) F bu bs ∧ BOk bs ∧ ∀ H', Same H H' → Q (.bl (settlesB c bs lot)) H'
theorem shs_len (m : Nat) (bs : List Bun) : (shs m bs).length = m := by
  unfold shs
  rw [List.length_map, List.length_range]
theorem shs_vtot_ok {m : Nat} (hm : m ≤ 2) {bs : List Bun} (h : BOk bs) : VtOk (vtot (shs m bs)) := by
  have h3 : m = 0 ∨ m = 1 ∨ m = 2 := by omega
  have h0 := areaSum_ok h 0
  have h1 := areaSum_ok h 1
  have a0 := h0.1.a0; have a1 := h0.1.b0; have a2 := h0.1.i0
  have b0 := h1.1.a0; have b1 := h1.1.b0; have b2 := h1.1.i0
  have c0 := h0.2; have c1 := h1.2
  unfold shs
  rcases h3 with rfl | rfl | rfl
  · rw [show List.range 0 = [] from rfl, List.map_nil]
    exact ⟨by decide, by decide, by decide, by decide⟩
  · rw [show List.range 1 = [0] from rfl, List.map_cons, List.map_nil]
    generalize areaSum bs 0 = x at *
    refine ⟨?_, ?_, ?_, ?_⟩ <;> simp only [vtot, List.foldl_cons, List.foldl_nil, vadd, Vt.sum] at * <;> omega
  · rw [show List.range 2 = [0, 1] from rfl, List.map_cons, List.map_cons, List.map_nil]
    generalize areaSum bs 0 = x at *
    generalize areaSum bs 1 = y at *
    refine ⟨?_, ?_, ?_, ?_⟩ <;> simp only [vtot, List.foldl_cons, List.foldl_nil, vadd, Vt.sum] at * <;> omega
theorem ok_settles (T : Txt K mg) : Ok P w K mg base 12 (He.ga K "settles") (sp_settles K) := by
  refine Ok.of T.fd_settles Txt.b_settles sc_settles (fun vs H Q E h => ?_) fun cdv A outer s H vs Q E hr h => ?_
  · obtain ⟨_, _, _, _, _, _, rfl, _⟩ := h
    rfl
  obtain ⟨F, v, bu, c, bs, lot, rfl, s, hc, hb, hok, q⟩ := h
  have ha2 := hc.ok.a2
  refine ⟨_, (pss_cons (ps_set (i := 3) sc_settles.nd rfl (Or.inl rfl) (pe_cl (ok_sheets_by T) (hr.mono (by decide)) (by rfl) T.g_sheets_by (pa_cons (pv 0) (pa_cons (pv 1) pa_nil))))
      (pss_cons (ps_set (i := 4) sc_settles.nd rfl (Or.inl rfl) (pe_cl (ok_sheets_by T) (hr.mono (by decide)) (by rfl) T.g_sheets_by (pa_cons (pv 0) (pa_cons (pe_lc rfl sc_settles.nd (pi_enum (by rfl) T.f_enumerate (pa_cons (pv 1) pa_nil)) (blkOk_by (own := [("at", 5), ("bundle", 6)]) (N := ["land", "bundles", "lot", "known", "seen", "at", "bundle"]) (sc := (defScope s_settles)) (by decide +kernel)) (fun _ _ _ _ _ => (pg_tupK (K := K) (n := 2) rfl rfl (pgs_cons (pg_name (i := 5) sc_settles.nd rfl (Or.inl rfl)) (pgs_cons (pg_name (i := 6) sc_settles.nd rfl (Or.inl rfl)) pgs_nil)))) (fun _ _ _ _ _ => (pts_one (pt_val (pe_cl (ok_holds T) (hr.mono (by decide)) (by rfl) T.g_holds (pa_cons (pv 2) (pa_cons (pv 5) pa_nil)))))) (fun _ _ _ _ _ => (pv 6))) pa_nil))))
      (pss_one (ps_ret (pe_me (k := 11) (hr.mono (by decide)) (pe_mk T.k_LandMargin (ok_LandMargin_init T) (hr.mono (by decide)) (by rfl) T.g_LandMargin (pa_cons (pv 0) pa_nil)) (pa_cons (pv 4) (pa_cons (pe_cl (ok_unseen_in T) (hr.mono (by decide)) (by rfl) T.g_unseen_in (pa_cons (pv 3) (pa_cons (pv 4) pa_nil))) (pa_cons (pv 3) pa_nil)))))))), ?_⟩
  walk_at "st"
  walk_at "rd"
  refine ⟨F, v, bu, c, bs, rfl, s, hc, hb, hok, fun kn F1 H1 x1 hkn => ?_⟩
  walk_at "rd"
  refine lc_enum (R := BunR K) (BunR K) (fun p : Nat × Bun => lot.testBit p.1) (fun p => p.2) (x1.mono hb) x1.sub (by have := hok.1; omega) (fun i y F2 H2 Tp v hy x2 hv hT Z Z0 hZ hZ0 => ?_) fun D F2 H2 x2 hD => ?_
  · walk_at "wp"
    refine rd_tupG (SqT.of upd_same) rfl ?_
    walk_at "rd"
    refine ⟨rfl, ?_⟩
    have xt : Xt F2 H2 F2 (upd H2 Tp (.tup [.int (i : Nat), v])) := (Xt.refl x2.sub).newH hT
    walk_at "rd"
    refine ⟨lot, i, rfl, ?_⟩
    walk_at "rd"
    cases hbit : lot.testBit i with
    | true =>
      walk_at "rd"
      exact hZ hbit _ _ _ xt hv
    | false =>
      walk_at "rd"
      exact hZ0 hbit _ _ xt
  have hD : LstR K (BunR K) F2 (.ref D) (pick lot bs) := hD
  have x12 := x1.trans x2
  walk_at "rd"
  refine ⟨F2, v, .ref D, c, _, rfl, x2.sub, x12.mono hc, hD, pick_ok hok, fun sn F3 H3 x3 hsn => ?_⟩
  have x123 := x12.trans x3
  walk_at "rd"
  intro x dx hx hdx hne
  refine ⟨F3, H3, x, dx, v, c, rfl, rfl, hx, hdx, hne, x3.sub, x123.mono hc, fun F4 H4 x4 hlm => ⟨rfl, ?_⟩⟩
  refine ⟨_, _, hlm.me T x4.sub T.m_LandMargin_held rfl, (ok_LandMargin_held T).mono (by decide), ?_⟩
  walk_at "rd"
  refine ⟨F4, kn, sn, _, _, rfl, x4.sub, sm_mo (x2.ff.trans (x3.ff.trans x4.ff)) hkn, x4.mono hsn, by rw [shs_len]; omega, fun un F5 H5 x5 hun => ?_⟩
  walk_at "rd"
  refine ⟨F5, .ref x, sn, un, kn, c, _, _, _, rfl, x5.sub, x5.mono hlm, sm_mo (x4.ff.trans x5.ff) hsn, hun, sm_mo (x2.ff.trans (x3.ff.trans (x4.ff.trans x5.ff))) hkn, shs_len _ _, ?_, shs_len _ _, shs_vtot_ok ha2 hok, fun H6 s6 => ?_⟩
  · rw [List.length_map, List.length_zip, shs_len, shs_len]
    exact Nat.min_self _
  · exact q _ ((x123.trans (x4.trans x5)).hh.trans s6)
end
end Wp


set_option Elab.async false
set_option linter.all false
set_option maxRecDepth 100000
set_option maxHeartbeats 4000000
namespace Wp
open PySem PySem.Spec PyProof.Rows L2
local macro_rules | `(tactic| walk_at "rd") => `(tactic| repeat (first
  | ((with_reducible apply rd_var); · exact rfl)
  | with_reducible refine rd_c ?_ | with_reducible refine rd_op ?_ | with_reducible refine rd_un ?_ | with_reducible refine rd_test ?_ | with_reducible refine rd_B ?_ | with_reducible refine rd_bl ?_
  | with_reducible refine rd_and ?_ | with_reducible refine rd_or ?_ | with_reducible refine rd_not ?_ | with_reducible refine rd_andV ?_ | with_reducible refine rd_orV ?_ | with_reducible refine rd_notV ?_ | with_reducible refine rd_ifE ?_
  | with_reducible refine rd_seq ?_ | with_reducible refine rd_asg ?_ | ((with_reducible apply rd_name); · (simp only [List.set_cons_zero, List.set_cons_succ]; exact rfl)) | with_reducible refine rd_ret ?_ | with_reducible refine rd_drop ?_ | with_reducible refine rd_if ?_ | with_reducible refine rd_next ?_ | with_reducible refine rd_break ?_ | with_reducible refine rd_cont ?_
  | with_reducible refine rd_cl ?_ | with_reducible refine rd_cb ?_ | with_reducible refine rd_mk ?_ | with_reducible refine rd_cons ?_ | with_reducible refine rd_nil ?_ | with_reducible refine rd_tup ?_ | with_reducible refine rd_lst ?_ | with_reducible refine rd_at ?_ | with_reducible refine rd_gAt ?_
  | with_reducible refine rd_isN ?_ | with_reducible refine rd_notN ?_ | with_reducible refine rd_abs ?_ | with_reducible refine rd_max ?_ | with_reducible refine rd_int ?_ | with_reducible refine rd_intB ?_ | with_reducible refine rd_consG ?_ | with_reducible refine rd_nilG ?_ | with_reducible refine rd_ipI ?_ | ((with_reducible apply rd_aug); · exact rfl)
  | with_reducible refine rd_par ?_ | with_reducible refine rd_par3 ?_ | ((with_reducible apply rd_parQ); · (simp only [List.set_cons_zero, List.set_cons_succ]; exact rfl)) | ((with_reducible apply rd_par3Q); · (simp only [List.set_cons_zero, List.set_cons_succ]; exact rfl))
  | with_reducible refine rd_yes ?_ | with_reducible refine rd_chain ?_ | with_reducible refine rd_bm ?_ | with_reducible refine rd_bm0 ?_ | with_reducible refine rd_me ?_ | with_reducible refine rd_augS ?_ | with_reducible refine rd_subG ?_ | with_reducible refine rd_forR ?_ | with_reducible refine rd_sl ?_ | with_reducible refine rd_part ?_ | with_reducible refine rd_partQ ?_ | with_reducible refine rd_noPart ?_ | with_reducible refine rd_lstRg ?_ | with_reducible refine rd_forL ?_ | with_reducible refine rd_forE ?_ | with_reducible refine rd_forZ ?_ | with_reducible refine rd_lcL ?_ | with_reducible refine rd_lcR ?_ | with_reducible refine rd_lcE ?_ | with_reducible refine rd_lcZ ?_ | with_reducible refine rd_while ?_
  | with_reducible refine iteT ?_ | with_reducible refine iteF ?_ | with_reducible refine ifNotT ?_ | with_reducible refine ifNotF ?_ | with_reducible refine rd_I0 ?_ | with_reducible refine rd_U ?_ | with_reducible refine rd_add ?_ | with_reducible refine rd_eqI ?_ | with_reducible refine rd_neI ?_ | with_reducible refine rd_eqB ?_))
local macro_rules | `(tactic| walk_at "st") => `(tactic| (intro σ hσ; simp only [L2.start, List.map_cons, List.map_nil, List.length_cons, List.length_nil, List.reduceReplicate, List.replicate_zero, List.append_nil, Nat.reduceAdd, Nat.reduceSub, List.cons_append, List.nil_append] at hσ; subst hσ; try dsimp only [cxOf, Cx.nox, Cx.wish]))
local macro_rules | `(tactic| walk_at "wp") => `(tactic| (simp only [List.map_cons, List.map_nil, wipe, List.set_cons_zero, List.set_cons_succ]))
/-! ### lots -/
abbrev Nls (K : PySem.W.Frag) : Hp → V → List Nat → Prop := LstR K NatR
def settlingL (c : LCfg) (bs : List Bun) : List Nat := (List.range (2 ^ bs.length)).filter fun l => settlesB c bs l
def leastL (S : List Nat) : List Nat := S.filter fun l => !(S.any fun o => decide (o &&& l = o) && !decide (o = l))
def openL (n : Nat) (S : List Nat) : List Nat := (List.range (2 ^ n)).filter fun l => !decide (l ∈ S)
def greatL (S : List Nat) : List Nat := S.filter fun l => !(S.any fun o => decide (l &&& o = l) && !decide (o = l))
def mustL (n : Nat) (S : List Nat) : Nat := S.foldl (fun a b => a &&& b) (2 ^ n - 1)
theorem nat_all2 {F : Hp} {vs : List V} {xs : List Nat} (h : All2 (NatR F) vs xs) : vs = xs.map fun n : Nat => V.int (n : Int) := h.eq_map fun _ _ e => e
theorem all2_bool {F : Hp} {vs : List V} {xs : List Bool} (h : All2 (BoolR F) vs xs) : vs = xs.map V.bl := h.eq_map fun _ _ e => e
theorem pow_nat (n : Nat) : (1 : Int) * 2 ^ (n : Int).toNat = ((2 ^ n : Nat) : Int) := by
  rw [Int.toNat_natCast, Int.one_mul]
  norm_cast
theorem pow10 {n : Nat} (h : n ≤ 9) : 2 ^ n ≤ 1000 := Nat.le_trans (Nat.pow_le_pow_right (by decide) h) (by decide)
section
variable {P : Program} {w : World} {K : PySem.W.Frag} {mg : Str → Option Value} {base : Heap}
theorem rd_any {H : Hp} {Q : VK} {F : Hp} {v : V} {bs : List Bool} (h : LstR K BoolR F v bs) (s : Same F H) (q : Q (.bl (bs.any id)) H) : rAny K [v] H Q := by
  obtain ⟨a, vs, rfl, hs, ha⟩ := h
  exact ⟨a, bs, rfl, all2_bool ha ▸ s.seq hs, q⟩
theorem rd_notIn {H : Hp} {Q : VK} {F : Hp} {v : V} {xs : List Nat} {n : Nat} (h : Nls K F v xs) (s : Same F H) (q : Q (.bl (!decide (n ∈ xs))) H) : rIn K true (.int (n : Int)) v H Q := by
  obtain ⟨a, vs, rfl, hs, ha⟩ := h
  have e := nat_all2 ha
  subst e
  refine ⟨a, _, rfl, .inl (s.seq hs), rfl, ?_, ?_⟩
  · rw [List.all_map]
    exact List.all_eq_true.mpr fun _ _ => rfl
  · have e : inV (.int (n : Int)) (xs.map fun n : Nat => V.int (n : Int)) = decide (n ∈ xs) := by
      unfold inV
      rw [List.any_map]
      refine Bool.eq_iff_iff.mpr ?_
      rw [List.any_eq_true, decide_eq_true_eq]
      constructor
      · rintro ⟨x, hx, e⟩
        have : (x : Int) = n := by simpa [eqV] using e
        rw [show n = x by omega]
        exact hx
      · exact fun hx => ⟨n, hx, by simp [eqV]⟩
    rw [if_pos rfl, e]
    exact q
def sp_settling (K : PySem.W.Frag) : Sp := fun vs H Q _ => ∃ (F : Hp) (v bu : V) (c : LCfg) (bs : List Bun), vs = [v, bu] ∧ Same F H ∧ IsLand K F v c ∧ LstR K (BunR K) F bu bs ∧ BOk bs ∧ bs.length ≤ 6 ∧ ∀ u F' H', Xt F H F' H' → Nls K F' u (settlingL c bs) → Q u H'
theorem ok_settling (T : Txt K mg) : Ok P w K mg base 13 (He.ga K "settling") (sp_settling K) := by
  refine Ok.of T.fd_settling Txt.b_settling sc_settling (fun vs H Q E h => ?_) fun cdv A outer s H vs Q E hr h => ?_
  · obtain ⟨_, _, _, _, _, rfl, _⟩ := h
    rfl
  obtain ⟨F, v, bu, c, bs, rfl, s, hc, hb, hok, h6, q⟩ := h
  obtain ⟨ab, bvs, rfl, hbs, hba⟩ := id hb
  have hlen := hba.length
  refine ⟨_, (pss_one (ps_ret (pe_lc rfl sc_settling.nd (pi_range1 (by rfl) T.f_range (pa_cons (pe_op op_shl pe_int (pe_callB call_lenN (by rfl) T.f_len PySem.boot_len (pa_cons (pv 1) pa_nil))) pa_nil)) (blkOk_by (own := [("lot", 2)]) (N := ["land", "bundles", "lot"]) (sc := (defScope s_settling)) (by decide +kernel)) (fun _ _ _ _ _ => (pg_name (i := 2) sc_settling.nd rfl (Or.inl rfl))) (fun _ _ _ _ _ => (pts_one (pt_val (pe_cl (ok_settles T) (hr.mono (by decide)) (by rfl) T.g_settles (pa_cons (pv 0) (pa_cons (pv 1) (pa_cons (pv 2) pa_nil))))))) (fun _ _ _ _ _ => (pv 2))))), ?_⟩
  walk_at "st"
  walk_at "rd"
  refine rd_lenL (s.seq hbs) ?_
  refine rd_I ⟨by omega, by omega, by decide⟩ ?_
  rw [pow_nat]
  walk_at "rd"
  refine lc_rng (K := K) (n := 2 ^ bvs.length) NatR (fun l => settlesB c bs l) (fun l : Nat => l) s (pow10 (by omega)) (fun i F1 H1 hi x Z Z0 hZ hZ0 => ?_) fun D F1 H1 x1 hD => ?_
  · walk_at "wp"
    walk_at "rd"
    refine ⟨rfl, ?_⟩
    walk_at "rd"
    refine ⟨F1, v, .ref ab, c, bs, i, rfl, x.sub, x.mono hc, x.mono hb, hok, fun H2 s2 => ?_⟩
    have x2 := Xt.of x.sub s2
    walk_at "rd"
    cases hbit : settlesB c bs i with
    | true =>
      walk_at "rd"
      exact hZ hbit _ _ _ x2 rfl
    | false =>
      walk_at "rd"
      exact hZ0 hbit _ _ x2
  · walk_at "rd"
    rw [List.map_id', hlen] at hD
    exact q _ _ _ x1 hD
def sp_least_lots (K : PySem.W.Frag) : Sp := fun vs H Q _ => ∃ (F : Hp) (v bu : V) (c : LCfg) (bs : List Bun), vs = [v, bu] ∧ Same F H ∧ IsLand K F v c ∧ LstR K (BunR K) F bu bs ∧ BOk bs ∧ bs.length ≤ 6 ∧ ∀ u F' H', Xt F H F' H' → Nls K F' u (leastL (settlingL c bs)) → Q u H'
theorem settlingL_len {c : LCfg} {bs : List Bun} (h : bs.length ≤ 6) : (settlingL c bs).length ≤ 64 := by
  unfold settlingL
  refine Nat.le_trans (List.length_filter_le _ _) ?_
  rw [List.length_range]
  exact Nat.pow_le_pow_right (by decide) h
theorem filt_map {α β : Type} (f : α → β) (xs : List α) : ((xs.filter fun _ => true).map f) = xs.map f := by rw [filtT]
theorem ok_least_lots (T : Txt K mg) : Ok P w K mg base 14 (He.ga K "least_lots") (sp_least_lots K) := by
  refine Ok.of T.fd_least_lots Txt.b_least_lots sc_least_lots (fun vs H Q E h => ?_) fun cdv A outer s H vs Q E hr h => ?_
  · obtain ⟨_, _, _, _, _, rfl, _⟩ := h
    rfl
  obtain ⟨F, v, bu, c, bs, rfl, s, hc, hb, hok, h6, q⟩ := h
  refine ⟨_, (pss_cons (ps_set (i := 2) sc_least_lots.nd rfl (Or.inr rfl) (pe_cl (ok_settling T) (hr.mono (by decide)) (by rfl) T.g_settling (pa_cons (pv 0) (pa_cons (pv 1) pa_nil))))
      (pss_one (ps_ret (pe_lc rfl sc_least_lots.nd (pi_list (pv 2)) (blkOk_by (own := [("lot", 3)]) (N := ["land", "bundles", "some", "lot", "one"]) (sc := (defScope s_least_lots)) (by decide +kernel)) (fun _ _ _ _ _ => (pg_name (i := 3) sc_least_lots.nd rfl (Or.inr rfl))) (fun _ _ _ _ _ => (pts_one (pt_not (pt_val (pe_callB (anyK (K := K) rfl rfl) (by rfl) T.f_any (by decide +kernel) (pa_cons (pe_lc rfl sc_least_lots.nd (listK (K := K) rfl (pv 2)) (blkOk_by (own := [("one", 4)]) (N := ["land", "bundles", "some", "lot", "one"]) (sc := ({ kind := .function, names := [(PySem.Str.ofString ".0", .local), (PySem.Str.ofString "lot", .cell), (PySem.Str.ofString "any", .globalImplicit), (PySem.Str.ofString "some", .cell)], isGenerator := false, isCoroutine := false, more := [] } : Scope)) (by decide +kernel)) (fun _ _ _ _ _ => (pg_name (i := 4) sc_least_lots.nd rfl (Or.inl rfl))) (fun _ _ _ _ _ => pts_nil) (fun _ _ _ _ _ => (pe_and (pe_cl (ok_is_in T) (hr.mono (by decide)) (by rfl) T.g_is_in (pa_cons (pv 4) (pa_cons (pv 3) pa_nil))) (pe_one (pe_cmpR (ne2K (K := K) rfl hr) (pv 4) (pv 3) (nomark _)))))) pa_nil)))))) (fun _ _ _ _ _ => (pv 3)))))), ?_⟩
  walk_at "st"
  walk_at "rd"
  refine ⟨F, v, bu, c, bs, rfl, s, hc, hb, hok, h6, fun u F1 H1 x1 hu => ?_⟩
  have hl := settlingL_len (c := c) h6
  generalize settlingL c bs = S at q hu hl
  walk_at "rd"
  refine lc_list (R := NatR) NatR (fun l => !(S.any fun o => decide (o &&& l = o) && !decide (o = l))) (fun l : Nat => l) hu x1.sub (by omega) (fun i l F2 H2 vl hy x hv Z Z0 hZ hZ0 => ?_) fun D F2 H2 x2 hD => ?_
  · obtain rfl : vl = .int (l : Int) := hv
    walk_at "wp"
    walk_at "rd"
    refine ⟨rfl, ?_⟩
    walk_at "rd"
    refine lc_list (R := NatR) BoolR (fun _ => true) (fun o : Nat => decide (o &&& l = o) && !decide (o = l)) (x.mono hu) x.sub (by omega) (fun j o F3 H3 vo hy' x3 hvo Z' Z0' hZ' hZ0' => ?_) fun D3 F3 H3 x3 hD3 => ?_
    · obtain rfl : vo = .int (o : Int) := hvo
      walk_at "wp"
      walk_at "rd"
      refine ⟨rfl, ?_⟩
      walk_at "rd"
      refine ⟨o, l, rfl, ?_⟩
      walk_at "rd"
      refine ifD (fun h => ?_) fun h => ?_
      · walk_at "rd"
        refine hZ' rfl _ _ _ (Xt.refl x3.sub) ?_
        show V.bl _ = V.bl _
        rw [decide_eq_true h, Bool.true_and, decide_eq_decide.mpr (show ((o : Int) = l) ↔ o = l by omega)]
      · refine hZ' rfl _ _ _ (Xt.refl x3.sub) ?_
        show V.bl _ = V.bl _
        rw [decide_eq_false h, Bool.false_and]
    · rw [filtT] at hD3
      walk_at "rd"
      refine rd_any hD3 x3.sub ?_
      rw [List.any_map]
      have e : (S.any (id ∘ fun o : Nat => decide (o &&& l = o) && !decide (o = l))) = S.any fun o => decide (o &&& l = o) && !decide (o = l) := rfl
      rw [e]
      walk_at "rd"
      cases hbit : S.any fun o => decide (o &&& l = o) && !decide (o = l) with
      | true =>
        walk_at "rd"
        exact hZ0 (by rw [hbit]; rfl) _ _ x3
      | false =>
        walk_at "rd"
        exact hZ (by rw [hbit]; rfl) _ _ _ x3 rfl
  · walk_at "rd"
    rw [List.map_id'] at hD
    exact q _ _ _ (x1.trans x2) hD
def sp_greatest_open (K : PySem.W.Frag) : Sp := fun vs H Q _ => ∃ (F : Hp) (v bu : V) (c : LCfg) (bs : List Bun), vs = [v, bu] ∧ Same F H ∧ IsLand K F v c ∧ LstR K (BunR K) F bu bs ∧ BOk bs ∧ bs.length ≤ 6 ∧ ∀ u F' H', Xt F H F' H' → Nls K F' u (greatL (openL bs.length (settlingL c bs))) → Q u H'
theorem ok_greatest_open (T : Txt K mg) : Ok P w K mg base 14 (He.ga K "greatest_open") (sp_greatest_open K) := by
  refine Ok.of T.fd_greatest_open Txt.b_greatest_open sc_greatest_open (fun vs H Q E h => ?_) fun cdv A outer s H vs Q E hr h => ?_
  · obtain ⟨_, _, _, _, _, rfl, _⟩ := h
    rfl
  obtain ⟨F, v, bu, c, bs, rfl, s, hc, hb, hok, h6, q⟩ := h
  obtain ⟨ab, bvs, rfl, hbs, hba⟩ := id hb
  have hlen := hba.length
  refine ⟨_, (pss_cons (ps_set (i := 2) sc_greatest_open.nd rfl (Or.inr rfl) (pe_cl (ok_settling T) (hr.mono (by decide)) (by rfl) T.g_settling (pa_cons (pv 0) (pa_cons (pv 1) pa_nil))))
      (pss_cons (ps_set (i := 3) sc_greatest_open.nd rfl (Or.inr rfl) (pe_lc rfl sc_greatest_open.nd (pi_range1 (by rfl) T.f_range (pa_cons (pe_op op_shl pe_int (pe_callB call_lenN (by rfl) T.f_len PySem.boot_len (pa_cons (pv 1) pa_nil))) pa_nil)) (blkOk_by (own := [("lot", 4)]) (N := ["land", "bundles", "some", "others", "lot", "one"]) (sc := (defScope s_greatest_open)) (by decide +kernel)) (fun _ _ _ _ _ => (pg_name (i := 4) sc_greatest_open.nd rfl (Or.inl rfl))) (fun _ _ _ _ _ => (pts_one (pt_cmpR (notInK (K := K) rfl) (pv 4) (pv 2) (by rfl)))) (fun _ _ _ _ _ => (pv 4))))
      (pss_one (ps_ret (pe_lc rfl sc_greatest_open.nd (pi_list (pv 3)) (blkOk_by (own := [("lot", 4)]) (N := ["land", "bundles", "some", "others", "lot", "one"]) (sc := (defScope s_greatest_open)) (by decide +kernel)) (fun _ _ _ _ _ => (pg_name (i := 4) sc_greatest_open.nd rfl (Or.inr rfl))) (fun _ _ _ _ _ => (pts_one (pt_not (pt_val (pe_callB (anyK (K := K) rfl rfl) (by rfl) T.f_any (by decide +kernel) (pa_cons (pe_lc rfl sc_greatest_open.nd (listK (K := K) rfl (pv 3)) (blkOk_by (own := [("one", 5)]) (N := ["land", "bundles", "some", "others", "lot", "one"]) (sc := ({ kind := .function, names := [(PySem.Str.ofString ".0", .local), (PySem.Str.ofString "lot", .cell), (PySem.Str.ofString "any", .globalImplicit), (PySem.Str.ofString "others", .cell)], isGenerator := false, isCoroutine := false, more := [] } : Scope)) (by decide +kernel)) (fun _ _ _ _ _ => (pg_name (i := 5) sc_greatest_open.nd rfl (Or.inl rfl))) (fun _ _ _ _ _ => pts_nil) (fun _ _ _ _ _ => (pe_and (pe_cl (ok_is_in T) (hr.mono (by decide)) (by rfl) T.g_is_in (pa_cons (pv 4) (pa_cons (pv 5) pa_nil))) (pe_one (pe_cmpR (ne2K (K := K) rfl hr) (pv 5) (pv 4) (nomark _)))))) pa_nil)))))) (fun _ _ _ _ _ => (pv 4))))))), ?_⟩
  walk_at "st"
  walk_at "rd"
  refine ⟨F, v, .ref ab, c, bs, rfl, s, hc, hb, hok, h6, fun u F1 H1 x1 hu => ?_⟩
  generalize settlingL c bs = S at q hu
  walk_at "rd"
  refine rd_lenL (x1.sl hbs) ?_
  refine rd_I ⟨by omega, by omega, by decide⟩ ?_
  rw [pow_nat]
  walk_at "rd"
  refine lc_rng (K := K) (n := 2 ^ bvs.length) NatR (fun l => !decide (l ∈ S)) (fun l : Nat => l) x1.sub (pow10 (by omega)) (fun i F2 H2 hi x Z Z0 hZ hZ0 => ?_) fun D F2 H2 x2 hD => ?_
  · walk_at "wp"
    walk_at "rd"
    refine ⟨rfl, ?_⟩
    walk_at "rd"
    refine rd_notIn (x.mono hu) x.sub ?_
    walk_at "rd"
    by_cases h : i ∈ S
    · refine ifNF h ?_
      exact hZ0 (by simp [h]) _ _ (Xt.refl x.sub)
    · refine ifNT h ?_
      walk_at "rd"
      exact hZ (by simp [h]) _ _ _ (Xt.refl x.sub) rfl
  rw [List.map_id', hlen] at hD
  have hD : Nls K F2 (.ref D) (openL bs.length S) := hD
  have hlo : (openL bs.length S).length ≤ 1000 := by
    unfold openL
    refine Nat.le_trans (List.length_filter_le _ _) ?_
    rw [List.length_range]
    exact pow10 (by omega)
  generalize openL bs.length S = U at q hD hlo
  have x12 := x1.trans x2
  walk_at "rd"
  refine lc_list (R := NatR) NatR (fun l => !(U.any fun o => decide (l &&& o = l) && !decide (o = l))) (fun l : Nat => l) hD x2.sub hlo (fun i l F2 H2 vl hy x hv Z Z0 hZ hZ0 => ?_) fun D F2 H2 x2 hD => ?_
  · obtain rfl : vl = .int (l : Int) := hv
    walk_at "wp"
    walk_at "rd"
    refine ⟨rfl, ?_⟩
    walk_at "rd"
    refine lc_list (R := NatR) BoolR (fun _ => true) (fun o : Nat => decide (l &&& o = l) && !decide (o = l)) (x.mono hD) x.sub hlo (fun j o F3 H3 vo hy' x3 hvo Z' Z0' hZ' hZ0' => ?_) fun D3 F3 H3 x3 hD3 => ?_
    · obtain rfl : vo = .int (o : Int) := hvo
      walk_at "wp"
      walk_at "rd"
      refine ⟨rfl, ?_⟩
      walk_at "rd"
      refine ⟨l, o, rfl, ?_⟩
      walk_at "rd"
      refine ifD (fun h => ?_) fun h => ?_
      · walk_at "rd"
        refine hZ' rfl _ _ _ (Xt.refl x3.sub) ?_
        show V.bl _ = V.bl _
        rw [decide_eq_true h, Bool.true_and, decide_eq_decide.mpr (show ((o : Int) = l) ↔ o = l by omega)]
      · refine hZ' rfl _ _ _ (Xt.refl x3.sub) ?_
        show V.bl _ = V.bl _
        rw [decide_eq_false h, Bool.false_and]
    · rw [filtT] at hD3
      walk_at "rd"
      refine rd_any hD3 x3.sub ?_
      rw [List.any_map]
      have e : (U.any (id ∘ fun o : Nat => decide (l &&& o = l) && !decide (o = l))) = U.any fun o => decide (l &&& o = l) && !decide (o = l) := rfl
      rw [e]
      walk_at "rd"
      cases hbit : U.any fun o => decide (l &&& o = l) && !decide (o = l) with
      | true =>
        walk_at "rd"
        exact hZ0 (by rw [hbit]; rfl) _ _ x3
      | false =>
        walk_at "rd"
        exact hZ (by rw [hbit]; rfl) _ _ _ x3 rfl
  · walk_at "rd"
    rw [List.map_id'] at hD
    exact q _ _ _ (x12.trans x2) hD
def sp_must_look (K : PySem.W.Frag) : Sp := fun vs H Q _ => ∃ (F : Hp) (v bu : V) (c : LCfg) (bs : List Bun), vs = [v, bu] ∧ Same F H ∧ IsLand K F v c ∧ LstR K (BunR K) F bu bs ∧ BOk bs ∧ bs.length ≤ 6 ∧ ∀ H', Same H H' → Q (.int (mustL bs.length (leastL (settlingL c bs)) : Nat)) H'
theorem ok_must_look (T : Txt K mg) : Ok P w K mg base 15 (He.ga K "must_look") (sp_must_look K) := by
  refine Ok.of T.fd_must_look Txt.b_must_look sc_must_look (fun vs H Q E h => ?_) fun cdv A outer s H vs Q E hr h => ?_
  · obtain ⟨_, _, _, _, _, rfl, _⟩ := h
    rfl
  obtain ⟨F, v, bu, c, bs, rfl, s, hc, hb, hok, h6, q⟩ := h
  obtain ⟨ab, bvs, rfl, hbs, hba⟩ := id hb
  have hlen := hba.length
  refine ⟨_, (pss_cons (ps_set (i := 2) sc_must_look.nd rfl (Or.inl rfl) (pe_op op_sub (pe_op op_shl pe_int (pe_callB call_lenN (by rfl) T.f_len PySem.boot_len (pa_cons (pv 1) pa_nil))) pe_int))
      (pss_cons (ps_for PassesOwn.never rfl (pi_list (pe_cl (ok_least_lots T) (hr.mono (by decide)) (by rfl) T.g_least_lots (pa_cons (pv 0) (pa_cons (pv 1) pa_nil)))) (pg_name (i := 3) sc_must_look.nd rfl (Or.inl rfl)) (pss_one (ps_set (i := 2) sc_must_look.nd rfl (Or.inl rfl) (pe_op op_and (pv 2) (pv 3)))))
      (pss_one (ps_ret (pv 2))))), ?_⟩
  walk_at "st"
  walk_at "rd"
  refine rd_lenL (s.seq hbs) ?_
  refine rd_I ⟨by omega, by omega, by decide⟩ ?_
  rw [pow_nat]
  walk_at "rd"
  refine ⟨F, v, .ref ab, c, bs, rfl, s, hc, hb, hok, h6, fun u F1 H1 x1 hu => ?_⟩
  unfold mustL at q
  generalize leastL (settlingL c bs) = S at q hu
  have e1 : ((2 ^ bvs.length : Nat) : Int) - 1 = ((2 ^ bs.length - 1 : Nat) : Int) := by
    rw [hlen]
    have := Nat.one_le_two_pow (n := bs.length)
    omega
  rw [e1]
  walk_at "rd"
  refine fo_list (R := NatR) (F := F1) (fun i σ F2 H2 => ∃ (y3 : Option V), σ = [some v, some (.ref ab), some (.int ((S.take i).foldl (fun a b => a &&& b) (2 ^ bs.length - 1) : Nat)), y3] ∧ F2 = F1 ∧ H2 = H1) hu ⟨_, rfl, rfl, rfl⟩ (fun i σ F2 H2 ⟨_, _, e, e'⟩ => by subst e e'; exact ⟨Same.refl _, x1.sub⟩) ?_ ?_
  · rintro i y vy σ F2 H2 hy hv ⟨y3, rfl, rfl, rfl⟩
    obtain rfl : vy = .int (y : Int) := hv
    walk_at "rd"
    rw [band_nat]
    have e : (S.take (i + 1)).foldl (fun a b => a &&& b) (2 ^ bs.length - 1) = (S.take i).foldl (fun a b => a &&& b) (2 ^ bs.length - 1) &&& y := by
      rw [take_snoc hy, List.foldl_append]
      rfl
    rw [← e]
    exact ⟨_, _, rfl, rfl, rfl⟩
  · rintro σ F2 H2 ⟨y3, rfl, rfl, rfl⟩
    rw [List.take_length]
    walk_at "rd"
    exact q _ x1.hh
def sp_fewest (K : PySem.W.Frag) : Sp := fun vs H Q _ => ∃ (F : Hp) (v bu : V) (c : LCfg) (bs : List Bun), vs = [v, bu] ∧ Same F H ∧ IsLand K F v c ∧ LstR K (BunR K) F bu bs ∧ BOk bs ∧ bs.length ≤ 6 ∧ leastL (settlingL c bs) ≠ [] ∧ ∀ l H', l ∈ leastL (settlingL c bs) → Same H H' → Q (.int (l : Nat)) H'
def PairX : Hp → V → Nat × Nat → Prop := fun F v p => ∃ t, v = .ref t ∧ F t = some (.tup [.int (p.1 : Int), .int (p.2 : Int)])
instance : Mono PairX := ⟨fun s h => by
  obtain ⟨t, e, h⟩ := h
  exact ⟨t, e, s _ _ h⟩⟩
theorem ok_fewest (T : Txt K mg) : Ok P w K mg base 15 (He.ga K "fewest") (sp_fewest K) := by
  refine Ok.of T.fd_fewest Txt.b_fewest sc_fewest (fun vs H Q E h => ?_) fun cdv A outer s H vs Q E hr h => ?_
  · obtain ⟨_, _, _, _, _, rfl, _⟩ := h
    rfl
  obtain ⟨F, v, bu, c, bs, rfl, s, hc, hb, hok, h6, hne, q⟩ := h
  refine ⟨_, (pss_one (ps_ret (pe_ix ix_seq (pe_ix ix_seq (pe_callB cr_sortedPO (by rfl) T.f_sorted (by decide +kernel) (pa_cons (pe_lc rfl sc_fewest.nd (pi_list (pe_cl (ok_least_lots T) (hr.mono (by decide)) (by rfl) T.g_least_lots (pa_cons (pv 0) (pa_cons (pv 1) pa_nil)))) (blkOk_by (own := [("lot", 2)]) (N := ["land", "bundles", "lot"]) (sc := (defScope s_fewest)) (by decide +kernel)) (fun _ _ _ _ _ => (pg_name (i := 2) sc_fewest.nd rfl (Or.inl rfl))) (fun _ _ _ _ _ => pts_nil) (fun _ _ _ _ _ => (pe_tup (pa_cons (pe_cl (ok_size T) (hr.mono (by decide)) (by rfl) T.g_size (pa_cons (pv 2) pa_nil)) (pa_cons (pv 2) pa_nil))))) pa_nil)) pe_int (fun _ _ => rfl)) pe_int (fun _ _ => rfl)))), ?_⟩
  walk_at "st"
  walk_at "rd"
  refine ⟨F, v, bu, c, bs, rfl, s, hc, hb, hok, h6, fun u F1 H1 x1 hu => ?_⟩
  have hl : ∀ l ∈ leastL (settlingL c bs), l ≤ 100 := fun l h => by
    have h := (List.mem_filter.mp h).1
    have h := (List.mem_filter.mp h).1
    have h := List.mem_range.mp h
    have := Nat.pow_le_pow_right (n := 2) (by decide) h6
    omega
  have hll : (leastL (settlingL c bs)).length ≤ 64 := Nat.le_trans (List.length_filter_le _ _) (settlingL_len h6)
  generalize leastL (settlingL c bs) = S at q hu hl hll hne
  walk_at "rd"
  refine lc_list (R := NatR) PairX (fun _ => true) (fun l : Nat => ((membersN l l 0).length, l)) hu x1.sub (by omega) (fun i l F2 H2 vl hy x hv Z Z0 hZ _ => ?_) fun D F2 H2 x2 hD => ?_
  · obtain rfl : vl = .int (l : Int) := hv
    walk_at "wp"
    walk_at "rd"
    refine ⟨rfl, ?_⟩
    walk_at "rd"
    refine ⟨l, rfl, hl l (List.mem_of_getElem? hy), fun H3 s3 => ?_⟩
    have x3 := Xt.of x.sub s3
    walk_at "rd"
    refine ⟨szl (by simp), fun p hp => ?_⟩
    exact hZ rfl _ _ _ (x3.new hp) ⟨p, rfl, upd_same⟩
  · rw [filtT] at hD
    obtain ⟨_, vs, e, hs, ha⟩ := hD
    cases e
    walk_at "rd"
    have key : ∀ x ∈ vs, ∃ n ∈ S, ∃ t, x = V.ref t ∧ F2 t = some (.tup [.int ((membersN n n 0).length : Nat), .int (n : Int)]) := fun x hx => by
      obtain ⟨i, hi⟩ := List.mem_iff_getElem?.mp hx
      obtain ⟨p, hp, t, rfl, ht⟩ := ha.getL hi
      rw [List.getElem?_map] at hp
      cases hn : S[i]? with
      | none => rw [hn] at hp; cases hp
      | some n =>
        rw [hn] at hp
        cases hp
        exact ⟨n, List.mem_of_getElem? hn, t, rfl, ht⟩
    refine ⟨D, vs, fun x => match x with
      | .ref t => (match F2 t with
        | some (.tup [.int a, .int b]) => (a, b)
        | _ => (0, 0))
      | _ => (0, 0), rfl, x2.sub.seq hs, fun x hx => ?_, fun ys p hsort hstb hp => ?_⟩
    · obtain ⟨n, hn, t, rfl, ht⟩ := key x hx
      refine ⟨t, rfl, ?_⟩
      rw [x2.sub _ _ ht]
      simp only [ht]
    · have hperm := hstb.perm
      cases ys with
      | nil =>
        have h0 : vs = [] := List.Perm.eq_nil hperm.symm
        have := ha.length
        rw [h0, List.length_map] at this
        exact absurd (List.length_eq_zero_iff.mp this.symm) hne
      | cons y ys =>
        obtain ⟨n, hn, t, rfl, ht⟩ := key y (hperm.mem_iff.mp List.mem_cons_self)
        have x3 := x2.newH (o := .lst (.ref t :: ys)) hp
        walk_at "rd"
        refine rd_ixL (v := .ref t) (SqL.of upd_same) (show atI (V.ref t :: ys) ((0 : Nat) : Int) = _ from atI_get2 rfl) ?_
        walk_at "rd"
        refine rd_ixT (SqT.of (x3.sub _ _ ht)) rfl ?_
        exact q n _ hn (x1.trans x3).hh
end
end Wp


set_option Elab.async false
set_option linter.all false
set_option maxRecDepth 100000
set_option maxHeartbeats 4000000
namespace Wp
open PySem PySem.Spec PyProof.Rows L2
theorem rd_lstRg {te : TE} {σ : L2.St} {H : Hp} {Q : VK} (h : te σ H fun x H1 => ∃ n, x = .int n ∧ RgOk 0 n ∧ ∀ q, H1 q = none → Q (.ref q) (upd H1 q (.lst (rgV 0 n)))) : tLstRg (tRg1 te) σ H Q := h
local macro_rules | `(tactic| walk_at "rd") => `(tactic| repeat (first
  | ((with_reducible apply rd_var); · exact rfl)
  | with_reducible refine rd_c ?_ | with_reducible refine rd_op ?_ | with_reducible refine rd_un ?_ | with_reducible refine rd_test ?_ | with_reducible refine rd_B ?_ | with_reducible refine rd_bl ?_
  | with_reducible refine rd_and ?_ | with_reducible refine rd_or ?_ | with_reducible refine rd_not ?_ | with_reducible refine rd_andV ?_ | with_reducible refine rd_orV ?_ | with_reducible refine rd_notV ?_ | with_reducible refine rd_ifE ?_
  | with_reducible refine rd_seq ?_ | with_reducible refine rd_asg ?_ | ((with_reducible apply rd_name); · (simp only [List.set_cons_zero, List.set_cons_succ]; exact rfl)) | with_reducible refine rd_ret ?_ | with_reducible refine rd_drop ?_ | with_reducible refine rd_if ?_ | with_reducible refine rd_next ?_ | with_reducible refine rd_break ?_ | with_reducible refine rd_cont ?_
  | with_reducible refine rd_cl ?_ | with_reducible refine rd_cb ?_ | with_reducible refine rd_mk ?_ | with_reducible refine rd_cons ?_ | with_reducible refine rd_nil ?_ | with_reducible refine rd_tup ?_ | with_reducible refine rd_lst ?_ | with_reducible refine rd_at ?_ | with_reducible refine rd_gAt ?_
  | with_reducible refine rd_isN ?_ | with_reducible refine rd_notN ?_ | with_reducible refine rd_abs ?_ | with_reducible refine rd_max ?_ | with_reducible refine rd_int ?_ | with_reducible refine rd_intB ?_ | with_reducible refine rd_consG ?_ | with_reducible refine rd_nilG ?_ | with_reducible refine rd_ipI ?_ | ((with_reducible apply rd_aug); · exact rfl)
  | with_reducible refine rd_par ?_ | with_reducible refine rd_par3 ?_ | ((with_reducible apply rd_parQ); · (simp only [List.set_cons_zero, List.set_cons_succ]; exact rfl)) | ((with_reducible apply rd_par3Q); · (simp only [List.set_cons_zero, List.set_cons_succ]; exact rfl))
  | with_reducible refine rd_yes ?_ | with_reducible refine rd_chain ?_ | with_reducible refine rd_bm ?_ | with_reducible refine rd_bm0 ?_ | with_reducible refine rd_me ?_ | with_reducible refine rd_augS ?_ | with_reducible refine rd_subG ?_ | with_reducible refine rd_forR ?_ | with_reducible refine rd_sl ?_ | with_reducible refine rd_part ?_ | with_reducible refine rd_partQ ?_ | with_reducible refine rd_noPart ?_ | with_reducible refine rd_lstRg ?_ | with_reducible refine rd_forL ?_ | with_reducible refine rd_forE ?_ | with_reducible refine rd_forZ ?_ | with_reducible refine rd_lcL ?_ | with_reducible refine rd_lcR ?_ | with_reducible refine rd_lcE ?_ | with_reducible refine rd_lcZ ?_ | with_reducible refine rd_while ?_
  | with_reducible refine iteT ?_ | with_reducible refine iteF ?_ | with_reducible refine ifNotT ?_ | with_reducible refine ifNotF ?_ | with_reducible refine rd_I0 ?_ | with_reducible refine rd_U ?_ | with_reducible refine rd_add ?_ | with_reducible refine rd_eqI ?_ | with_reducible refine rd_neI ?_ | with_reducible refine rd_eqB ?_))
local macro_rules | `(tactic| walk_at "st") => `(tactic| (intro σ hσ; simp only [L2.start, List.map_cons, List.map_nil, List.length_cons, List.length_nil, List.reduceReplicate, List.replicate_zero, List.append_nil, Nat.reduceAdd, Nat.reduceSub, List.cons_append, List.nil_append] at hσ; subst hσ; try dsimp only [cxOf, Cx.nox, Cx.wish]))
local macro_rules | `(tactic| walk_at "wp") => `(tactic| (simp only [List.map_cons, List.map_nil, wipe, List.set_cons_zero, List.set_cons_succ]))
section
variable {X : Cx} {x : Str} {c : Value} {body suite : List Stmt} {b₀ : Stmt} {np pos pos' : Pos} {tb ts : TS}
/-- try: .. except C: raise .., nothing raised -/
theorem ps_try0 (hs : X.stack = X.env :: X.outer) (hf : X.env.frame = some X.env.locals) (hc : Names X x c) (hx : X.xe = fun _ _ => False)
    (hb : ∀ (pn : List (Addr × Obj)) (xe : Value → Shared → Prop), PSs (X.tr pn xe) body tb) (hsu : ∀ (a : Addr) (pn : List (Addr × Obj)), PSs (X.suite a pn) (b₀ :: suite) ts) :
    PS X (.Try body [.ExceptHandler (some (.Name x np)) none (b₀ :: suite) pos'] [] [] pos) tb :=
  ps_try_only (tb := fun _ => tb) (ts := fun _ _ _ => ts) (Wout := fun _ _ _ _ => False) hs hf hc (fun u s' ⟨a, B, sI, pins, σ, H, cls, d, e, I, nb, up, sky, na, os, ag, w⟩ => w.elim) (fun W pn xe _ _ => hb pn xe) (fun a oe cls d pn _ _ => hsu a _)
theorem pgAtK {K : PySem.W.Frag} {o : Expr} {ta : TE} {g : Str} (h : X.K = K) (ho : PE X o ta) : PG X (.Attribute o g pos) (gAt K ta g) := by
  subst h
  exact pg_at ho
end
section
variable {P : Program} {w : World} {K : PySem.W.Frag} {mg : Str → Option Value} {base : Heap}
theorem tyx_list {H : Hp} {a : Addr} {xs : List V} (h : SqL K H a xs) : TyX K H (.ref a) (.type "list") := by
  rcases h with (h | ⟨o, h⟩) | ⟨o, _, _, k, cs, _⟩
  · exact .base (.lst h)
  · exact .base (.frz h)
  · exact .kList k cs
theorem rd_isi_list {H : Hp} {Q : VK} {a : Addr} {xs : List V} (h : SqL K H a xs) (q : Q (.bl true) H) : rIsi K [.ref a, .ty "list"] H Q := ⟨_, _, _, _, _, rfl, .ty "list", tyx_list h, kit_ty (by decide +kernel), q⟩
theorem rd_isi_tup {H : Hp} {Q : VK} {a : Addr} {xs : List V} (h : H a = some (.tup xs)) (q : Q (.bl true) H) : rIsi K [.ref a, .ty "tuple"] H Q := ⟨_, _, _, _, _, rfl, .ty "tuple", .base (.tup h), kit_ty (by decide +kernel), q⟩
theorem rgV_nat (n : Nat) : rgV 0 (n : Int) = (List.range n).map fun i : Nat => V.int (i : Int) := by
  unfold rgV
  rw [Int.sub_zero, Int.toNat_natCast]
  refine List.map_congr_left fun i _ => ?_
  rw [Int.zero_add]
/-! ### lots_of, hurdle_of -/
theorem lots_sorted {f : Bool} {ns : List Int} (h : ns.Perm (lotsOf f)) (s : ns.Pairwise (· ≤ ·)) : ns = [0, 1] := by
  have hp : ns.Perm [0, 1] := by
    cases f with
    | true => exact h
    | false => exact h.trans (List.Perm.swap _ _ _)
  have hl := hp.length_eq
  match ns, hl with
  | [a, b], _ =>
    have ha := hp.mem_iff.mp (List.mem_cons_self (a := a) (l := [b]))
    have hb := hp.mem_iff.mp (show b ∈ [a, b] by simp)
    have nd : [a, b].Nodup := hp.nodup_iff.mpr (by decide)
    have hle : a ≤ b := by
      simp only [List.pairwise_cons] at s
      exact s.1 b (by simp)
    simp at ha hb nd
    have h0 : a = 0 := by omega
    have h1 : b = 1 := by omega
    rw [h0, h1]
def sp_lots_of (K : PySem.W.Frag) : Sp := fun vs H Q _ => ∃ (F : Hp) (l : Addr) (f : Bool), vs = [.int 2, .ref l] ∧ Same F H ∧ SqL K F l ((lotsOf f).map .int) ∧ ∀ u F' H', Xt F H F' H' → SqL K F' u ((lotsOf f).map .int) → Q (.ref u) H'
theorem ok_lots_of (T : Txt K mg) : Ok P w K mg base 2 (He.ga K "lots_of") (sp_lots_of K) := by
  refine Ok.of T.fd_lots_of Txt.b_lots_of sc_lots_of (fun vs H Q E h => ?_) fun cdv A outer s H vs Q E hr h => ?_
  · obtain ⟨_, _, _, rfl, _⟩ := h
    rfl
  obtain ⟨F, l, f, rfl, s, hl, q⟩ := h
  have hlen : ((lotsOf f).map V.int).length = 2 := by cases f <;> rfl
  refine ⟨_, (pss_cons (ps_if (pt_cmpR op_isNN (pv 1) pe_non (nomark _)) (pss_one (ps_ret (pe_listRg rfl (by rfl) T.f_list (prg_1 (by rfl) T.f_range (pv 0))))) pss_nil)
      (pss_cons (ps_if (PW.pt (pw_or (pt_not (pt_val (pe_callB call_isi (by rfl) T.f_isinstance (by decide +kernel) (pa_cons (pv 1) (pa_cons (pe_bltn (v := .ty "list") (by rfl) T.f_list (by decide +kernel) rfl) pa_nil))))) (pw_or1 (pt_cmpR (op_ne2 hr) (pe_callB call_lenN (by rfl) T.f_len PySem.boot_len (pa_cons (pv 1) pa_nil)) (pv 0) (nomark _))))) (pss_one ps_never) pss_nil)
      (pss_cons (ps_for PassesOwn.never rfl (pi_list (pv 1)) (pg_name (i := 2) sc_lots_of.nd rfl (Or.inl rfl)) (pss_one (ps_if (pt_not (pt_val (pe_cl (ok_is_whole T) (hr.mono (by decide)) (by rfl) T.g_is_whole (pa_cons (pv 2) pa_nil)))) (pss_one ps_never) pss_nil)))
      (pss_cons (ps_if (pt_cmpR (op_ne2 hr) (pe_callB cr_sorted (by rfl) T.f_sorted (by decide +kernel) (pa_cons (pv 1) pa_nil)) (pe_listRg rfl (by rfl) T.f_list (prg_1 (by rfl) T.f_range (pv 0))) (nomark _)) (pss_one ps_never) pss_nil)
      (pss_one (ps_ret (pe_callTy call_listN (by rfl) T.f_list (by decide +kernel) (pa_cons (pv 1) pa_nil)))))))), ?_⟩
  walk_at "st"
  walk_at "rd"
  refine ifF (fun e => nomatch e) ?_
  walk_at "rd"
  refine rd_isi_list (s.seq hl) ?_
  walk_at "rd"
  refine rd_lenL (s.seq hl) ?_
  rw [hlen]
  walk_at "rd"
  refine ifNF rfl ?_
  walk_at "rd"
  refine fo_list (R := IntR) (F := F) (fun i σ F1 H1 => ∃ (y2 : Option V), σ = [some (.int 2), some (.ref l), y2] ∧ F1 = F ∧ H1 = H) (ilst_of hl) ⟨_, rfl, rfl, rfl⟩ (fun i σ F1 H1 ⟨_, _, e, e'⟩ => by subst e e'; exact ⟨Same.refl _, s⟩) ?_ ?_
  · rintro i y vy σ F1 H1 hy hv ⟨y2, rfl, rfl, rfl⟩
    obtain rfl : vy = .int y := hv
    walk_at "rd"
    refine ⟨y, rfl, ?_⟩
    walk_at "rd"
    exact ⟨_, _, rfl, rfl, rfl⟩
  · rintro σ F1 H1 ⟨y2, rfl, rfl, rfl⟩
    walk_at "rd"
    refine ⟨l, lotsOf f, rfl, s.seq hl, by cases f <;> decide, fun ns' p hp hsort hpn => ?_⟩
    obtain rfl := lots_sorted hp hsort
    have x1 := (Xt.refl s).new (o := .lst ([0, 1].map V.int)) hpn
    walk_at "rd"
    refine ⟨2, rfl, .of_le (by decide) (by decide) (by decide) (by decide), fun p2 hp2 => ?_⟩
    have x2 := x1.new (o := .lst (rgV 0 2)) hp2
    refine rd_neD dat_int.lst (by decide) (x := [0, 1]) (y := [0, 1]) (ilst_of (SqL.of ((same_new hp2) _ _ upd_same))) (ilst_of (SqL.of upd_same)) ?_
    walk_at "rd"
    refine ifNF rfl ?_
    walk_at "rd"
    refine rd_listL (x2.sl hl) fun l2 hl2 => ?_
    exact q _ _ _ (x2.new hl2) (SqL.of upd_same)
def sp_hurdle_of (K : PySem.W.Frag) : Sp := fun vs H Q _ => ∃ (F : Hp) (t : Addr) (ht hb : Int), vs = [.ref t] ∧ Same F H ∧ F t = some (.tup [.int ht, .int hb]) ∧ HurOk ht hb ∧ Q (.ref t) H
theorem ok_hurdle_of (T : Txt K mg) : Ok P w K mg base 2 (He.ga K "hurdle_of") (sp_hurdle_of K) := by
  refine Ok.of T.fd_hurdle_of Txt.b_hurdle_of sc_hurdle_of (fun vs H Q E h => ?_) fun cdv A outer s H vs Q E hr h => ?_
  · obtain ⟨_, _, _, _, rfl, _⟩ := h
    rfl
  obtain ⟨F, t, ht, hb, rfl, s, htu, ok, q⟩ := h
  have o1 := ok.t0
  have o2 := ok.tb
  have o3 := ok.b1
  refine ⟨_, (pss_cons (ps_if (pt_cmpR op_isNN (pv 0) pe_non (nomark _)) (pss_one (ps_ret (pe_tup (pa_cons pe_int (pa_cons pe_int pa_nil))))) pss_nil)
      (pss_cons (ps_if (PW.pt (pw_or (pt_not (pt_val (pe_callB call_isi (by rfl) T.f_isinstance (by decide +kernel) (pa_cons (pv 0) (pa_cons (pe_bltn (v := .ty "tuple") (by rfl) T.f_tuple (by decide +kernel) rfl) pa_nil))))) (pw_or1 (pt_cmpR (op_ne2 hr) (pe_callB call_lenN (by rfl) T.f_len PySem.boot_len (pa_cons (pv 0) pa_nil)) pe_int (nomark _))))) (pss_one ps_never) pss_nil)
      (pss_cons (ps_asg (pv 0) (pg_tup rfl (pgs_cons (pg_name (i := 1) sc_hurdle_of.nd rfl (Or.inl rfl)) (pgs_cons (pg_name (i := 2) sc_hurdle_of.nd rfl (Or.inl rfl)) pgs_nil))))
      (pss_cons (ps_if (PW.pt (pw_or (pt_not (pt_val (pe_cl (ok_is_whole T) (hr.mono (by decide)) (by rfl) T.g_is_whole (pa_cons (pv 1) pa_nil)))) (pw_or1 (pt_not (pt_val (pe_cl (ok_is_whole T) (hr.mono (by decide)) (by rfl) T.g_is_whole (pa_cons (pv 2) pa_nil))))))) (pss_one ps_never) pss_nil)
      (pss_cons (ps_if (PW.pt (pw_or (pt_cmpR op_lt (pv 2) pe_int (nomark _)) (pw_or (pt_not (pt_chain op_le op_le pe_int (pv 1) (pv 2))) (pw_or1 (pt_cmpR (op_ne2 hr) (pe_cl (ok_divisor T) (hr.mono (by decide)) (by rfl) T.g_divisor (pa_cons (pv 1) (pa_cons (pv 2) pa_nil))) pe_int (nomark _)))))) (pss_one ps_never) pss_nil)
      (pss_one (ps_ret (pv 0)))))))), ?_⟩
  walk_at "st"
  walk_at "rd"
  refine ifF (fun e => nomatch e) ?_
  walk_at "rd"
  refine rd_isi_tup (s _ _ htu) ?_
  walk_at "rd"
  refine rd_lenT (SqT.of (s _ _ htu)) ?_
  walk_at "rd"
  refine ifNF rfl ?_
  walk_at "rd"
  refine rd_tupG (SqT.of (s _ _ htu)) rfl ?_
  walk_at "rd"
  refine ⟨ht, rfl, ?_⟩
  walk_at "rd"
  refine ⟨hb, rfl, ?_⟩
  walk_at "rd"
  refine ifF (by omega) ?_
  walk_at "rd"
  refine ifT o1 ?_
  walk_at "rd"
  refine ifNF o2 ?_
  walk_at "rd"
  refine ⟨ht, hb, rfl, ?_⟩
  walk_at "rd"
  refine ifNF (by rw [ok.g]; rfl) ?_
  walk_at "rd"
  exact q
/-! ### Way.__init__, Lists.__init__ -/
def sp_Way_init (K : PySem.W.Frag) : Sp := fun vs H Q _ => ∃ (F H0 : Hp) (x dx l : Addr) (S : Nat) (f : Bool), vs = [.ref x, .int 2, .int (S : Int), .ref l] ∧ Mkg F H0 F H x (.ins (He.ga K "Lists") dx []) ∧ SqL K F l ((lotsOf f).map .int) ∧ 1 ≤ S ∧ S ≤ 3 ∧
  ∀ u F' H', Mkg F H0 F' H' x (.ins (He.ga K "Lists") dx [("hands", .int 2), ("seats", .int (S : Int)), ("lots", .ref u)]) → SqL K F' u ((lotsOf f).map .int) → Q .non H'
theorem ok_Way_init (T : Txt K mg) : Ok P w K mg base 3 (He.ma K (He.ga K "Way") "__init__") (sp_Way_init K) := by
  refine Ok.of T.fd_Way_init Txt.b_Way_init sc_Way_init (fun vs H Q E h => ?_) fun cdv A outer s H vs Q E hr h => ?_
  · obtain ⟨_, _, _, _, _, _, _, rfl, _⟩ := h
    rfl
  obtain ⟨F, H0, x, dx, l, S, f, rfl, m, hl, s1, s3, q⟩ := h
  refine ⟨_, (pss_cons (ps_if (PW.pt (pw_or (pt_not (pt_val (pe_cl (ok_is_whole T) (hr.mono (by decide)) (by rfl) T.g_is_whole (pa_cons (pv 1) pa_nil)))) (pw_or1 (pt_not (pt_chain op_le op_le pe_int (pv 1) (pe_globI (by rfl) T.i_MOST_HANDS)))))) (pss_one ps_never) pss_nil)
      (pss_cons (ps_if (PW.pt (pw_or (pt_not (pt_val (pe_cl (ok_is_whole T) (hr.mono (by decide)) (by rfl) T.g_is_whole (pa_cons (pv 2) pa_nil)))) (pw_or1 (pt_not (pt_chain op_le op_le pe_int (pv 2) (pe_globI (by rfl) T.i_MOST_SEATS)))))) (pss_one ps_never) pss_nil)
      (pss_cons (ps_asg (pv 1) (pg_at (pv 0)))
      (pss_cons (ps_asg (pv 2) (pg_at (pv 0)))
      (pss_one (ps_asg (pe_cl (ok_lots_of T) (hr.mono (by decide)) (by rfl) T.g_lots_of (pa_cons (pv 1) (pa_cons (pv 3) pa_nil))) (pg_at (pv 0)))))))), ?_⟩
  walk_at "st"
  walk_at "rd"
  refine ⟨2, rfl, ?_⟩
  walk_at "rd"
  refine ifT (by decide) ?_
  walk_at "rd"
  refine ifNF (by decide) ?_
  walk_at "rd"
  refine ⟨S, rfl, ?_⟩
  walk_at "rd"
  refine ifT (by omega) ?_
  walk_at "rd"
  refine ifNF (by omega) ?_
  walk_at "rd"
  refine .inl ⟨x, _, dx, [], rfl, m.e, T.c_Lists, T.n_Lists_hands, by decide, ?_⟩
  have m := m.set (o' := .ins (He.ga K "Lists") dx (putF "hands" (.int 2) []))
  walk_at "rd"
  refine .inl ⟨x, _, dx, _, rfl, m.e, T.c_Lists, T.n_Lists_seats, (show 1 < 1000 by decide), ?_⟩
  have m := m.set (o' := .ins (He.ga K "Lists") dx (putF "seats" (.int (S : Int)) (putF "hands" (.int 2) [])))
  walk_at "rd"
  refine ⟨F, l, f, rfl, m.x.sub, hl, fun u F1 H1 x1 hu => ?_⟩
  have m := m.step x1
  walk_at "rd"
  refine .inl ⟨x, _, dx, _, rfl, m.e, T.c_Lists, T.n_Lists_lots, (show 2 < 1000 by decide), ?_⟩
  have m := m.set (o' := .ins (He.ga K "Lists") dx (putF "lots" (.ref u) (putF "seats" (.int (S : Int)) (putF "hands" (.int 2) []))))
  exact q _ _ _ m hu
def sp_Lists_init (K : PySem.W.Frag) : Sp := fun vs H Q _ => ∃ (F H0 : Hp) (x dx l t : Addr) (c : Cfg), vs = [.ref x, .int 2, .int (c.S : Int), .ref l, .ref t, .int c.st] ∧ H = upd (upd H0 dx (.own x)) x (.ins (He.ga K "Lists") dx []) ∧ H0 x = none ∧ H0 dx = none ∧ dx ≠ x ∧ Same F H0 ∧ SqL K F l ((lotsOf c.f).map .int) ∧ F t = some (.tup [.int c.ht, .int c.hb]) ∧ CfgOk c ∧
  ∀ F' H', Xt F H0 F' H' → IsLists K F' (.ref x) c → Q .non H'
theorem ok_Lists_init (T : Txt K mg) : Ok P w K mg base 4 (He.ma K (He.ga K "Lists") "__init__") (sp_Lists_init K) := by
  refine Ok.of T.fd_Lists_init Txt.b_Lists_init sc_Lists_init (fun vs H Q E h => ?_) fun cdv A outer s H vs Q E hr h => ?_
  · obtain ⟨_, _, _, _, _, _, _, rfl, _⟩ := h
    rfl
  obtain ⟨F, H0, x, dx, l, t, c, rfl, rfl, hx, hdx, hne, s, hl, ht, ok, q⟩ := h
  have m := Mkg.start (o := .ins (He.ga K "Lists") dx []) (u := .own x) (Xt.refl s) hx hdx hne
  have st := ok.st
  refine ⟨_, (pss_cons (ps_expr (pe_cm (ok_Way_init T) (hr.mono (by decide)) (by rfl) T.g_Way T.way_init.1 T.way_init.2 (pa_cons (pv 0) (pa_cons (pv 1) (pa_cons (pv 2) (pa_cons (pv 3) pa_nil))))))
      (pss_cons (ps_if (PW.pt (pw_or (pt_not (pt_val (pe_cl (ok_is_whole T) (hr.mono (by decide)) (by rfl) T.g_is_whole (pa_cons (pv 5) pa_nil)))) (pw_or1 (pt_not (pt_chain op_le op_le pe_int (pv 5) (pe_globI (by rfl) T.i_MOST_STEP_lists)))))) (pss_one ps_never) pss_nil)
      (pss_cons (ps_asg (pe_cl (ok_hurdle_of T) (hr.mono (by decide)) (by rfl) T.g_hurdle_of (pa_cons (pv 4) pa_nil)) (pg_at (pv 0)))
      (pss_one (ps_asg (pv 5) (pg_at (pv 0))))))), ?_⟩
  walk_at "st"
  walk_at "rd"
  refine ⟨F, H0, x, dx, l, c.S, c.f, rfl, m, hl, ok.s1, ok.s3, fun u F1 H1 m hu => ?_⟩
  walk_at "rd"
  refine ⟨c.st, rfl, ?_⟩
  walk_at "rd"
  refine ifT (by omega) ?_
  walk_at "rd"
  refine ifNF (by omega) ?_
  walk_at "rd"
  have ht1 := m.x.ff _ _ ht
  refine ⟨F1, t, c.ht, c.hb, rfl, m.x.sub, ht1, ok.h, ?_⟩
  walk_at "rd"
  refine .inl ⟨x, _, dx, _, rfl, m.e, T.c_Lists, T.n_Lists_hurdle, (show 3 < 1000 by decide), ?_⟩
  have m := m.set (o' := .ins (He.ga K "Lists") dx (putF "hurdle" (.ref t) [("hands", .int 2), ("seats", .int (c.S : Int)), ("lots", .ref u)]))
  walk_at "rd"
  refine .inl ⟨x, _, dx, _, rfl, m.e, T.c_Lists, T.n_Lists_step, (show 4 < 1000 by decide), ?_⟩
  have m := m.set (o' := .ins (He.ga K "Lists") dx (putF "step" (.int c.st) (putF "hurdle" (.ref t) [("hands", .int 2), ("seats", .int (c.S : Int)), ("lots", .ref u)])))
  exact q _ _ m.fin ⟨x, dx, u, t, rfl, upd_same, m.ff.seq hu, SqT.of (m.ff _ _ ht1), ok⟩
/-! ### areas_of, Land.__init__ -/
theorem kit_lt : PySem.W.kitAny K (.type "list") [.type "list", .type "tuple"] = some true := kitAny_cons (b := true) (kit_ty (by decide +kernel)) (fun h => nomatch h) (fun _ => rfl)
theorem IsLists.ok {F : Hp} {v : V} {c : Cfg} (h : IsLists K F v c) : CfgOk c := by
  obtain ⟨_, _, _, _, _, _, _, _, h⟩ := h
  exact h
def sp_areas_of (K : PySem.W.Frag) : Sp := fun vs H Q _ => ∃ (F : Hp) (v : V) (cs : List Cfg), vs = [v] ∧ Same F H ∧ LstR K (IsLists K) F v cs ∧ 1 ≤ cs.length ∧ cs.length ≤ 2 ∧ ∀ u F' H', Xt F H F' H' → LstR K (IsLists K) F' (.ref u) cs → Q (.ref u) H'
theorem ok_areas_of (T : Txt K mg) : Ok P w K mg base 1 (He.ga K "areas_of") (sp_areas_of K) := by
  refine Ok.of T.fd_areas_of Txt.b_areas_of sc_areas_of (fun vs H Q E h => ?_) fun cdv A outer s H vs Q E hr h => ?_
  · obtain ⟨_, _, _, rfl, _⟩ := h
    rfl
  obtain ⟨F, v, cs, rfl, s, hv, l1, l2, q⟩ := h
  obtain ⟨a, vs, rfl, hs, ha⟩ := id hv
  have hlen := ha.length
  refine ⟨_, (pss_cons (ps_if (PW.pt (pw_or (pt_not (pt_val (pe_callB call_isiT (by rfl) T.f_isinstance (by decide +kernel) (pa_cons (pv 0) (pa_cons (pe_tup (pa_cons (pe_bltn (v := .ty "list") (by rfl) T.f_list (by decide +kernel) rfl) (pa_cons (pe_bltn (v := .ty "tuple") (by rfl) T.f_tuple (by decide +kernel) rfl) pa_nil))) pa_nil))))) (pw_or1 (pt_not (pt_chain op_le op_le pe_int (pe_callB call_lenN (by rfl) T.f_len PySem.boot_len (pa_cons (pv 0) pa_nil)) (pe_globI (by rfl) T.i_MOST_AREAS)))))) (pss_one ps_never) pss_nil)
      (pss_cons (ps_if (pt_not (pt_val (pe_callB (cr_all rfl) (by rfl) T.f_all (by decide +kernel) (pa_cons (pe_lc rfl sc_areas_of.nd (pi_list (pv 0)) (blkOk_by (own := [("way", 1)]) (N := ["areas", "way"]) (sc := (defScope s_areas_of)) (by decide +kernel)) (fun _ _ _ _ _ => (pg_name (i := 1) sc_areas_of.nd rfl (Or.inl rfl))) (fun _ _ _ _ _ => pts_nil) (fun _ _ _ _ _ => (pe_callB (isiTK (K := K) rfl) (by rfl) T.f_isinstance (by decide +kernel) (pa_cons (pv 1) (pa_cons (pe_tup (pa_cons (pe_glob (v := .ref (He.ga K "Pairs")) (by rfl) T.g_Pairs rfl) (pa_cons (pe_glob (v := .ref (He.ga K "Lists")) (by rfl) T.g_Lists rfl) pa_nil))) pa_nil))))) pa_nil)))) (pss_one ps_never) pss_nil)
      (pss_cons (ps_if (pt_val (pe_callB (cr_any rfl) (by rfl) T.f_any (by decide +kernel) (pa_cons (pe_lc rfl sc_areas_of.nd (pi_list (pv 0)) (blkOk_by (own := [("way", 1)]) (N := ["areas", "way"]) (sc := (defScope s_areas_of)) (by decide +kernel)) (fun _ _ _ _ _ => (pg_name (i := 1) sc_areas_of.nd rfl (Or.inl rfl))) (fun _ _ _ _ _ => pts_nil) (fun _ _ _ _ _ => (pe_cmpR (ne2K (K := K) rfl hr) (atK (K := K) rfl (pv 1)) (atK (K := K) rfl (pe_ix (ixK (K := K) rfl) (pv 0) pe_int (fun _ _ => rfl))) (nomark _)))) pa_nil))) (pss_one ps_never) pss_nil)
      (pss_one (ps_ret (pe_callTy call_listN (by rfl) T.f_list (by decide +kernel) (pa_cons (pv 0) pa_nil))))))), ?_⟩
  walk_at "st"
  walk_at "rd"
  refine ⟨szl (by simp), fun p hp => ?_⟩
  have x1 := (Xt.refl s).newH (o := .tup [.ty "list", .ty "tuple"]) hp
  refine ⟨_, p, _, _, _, _, rfl, upd_same, .cons (.ty _) (.cons (.ty _) .nil), tyx_list (x1.sl hs), kit_lt, ?_⟩
  walk_at "rd"
  refine rd_lenL (x1.sl hs) ?_
  walk_at "rd"
  refine ifT (by omega) ?_
  walk_at "rd"
  refine ifNF (by omega) ?_
  walk_at "rd"
  refine lc_list BoolR (fun _ => true) (fun _ : Cfg => true) hv x1.sub (by omega) (fun i c F2 H2 v hy x hv Z Z0 hZ _ => ?_) fun D F2 H2 x2 hD => ?_
  · walk_at "wp"
    walk_at "rd"
    refine ⟨rfl, ?_⟩
    walk_at "rd"
    refine ⟨szl (by simp), fun p hp => ?_⟩
    have x3 := (Xt.refl x.sub).newH (o := .tup [.ref (He.ga K "Pairs"), .ref (He.ga K "Lists")]) hp
    obtain ⟨ai, dxi, li, hui, rfl, h1, _⟩ := id hv
    have i := T.ins_Lists
    refine ⟨_, p, _, _, _, _, rfl, upd_same, .cons (.own _) (.cons (.own _) .nil), .base (.ins (x3.sub _ _ h1) T.c_Lists i.ha i.hn i.htk i.hm), T.kit_areas, ?_⟩
    exact hZ rfl _ _ _ x3 rfl
  · rw [filtT] at hD
    obtain ⟨_, ws, e, hws, hwa⟩ := hD
    cases e
    walk_at "rd"
    refine ⟨D, _, rfl, all2_bool hwa ▸ x2.sub.seq hws, ?_⟩
    have e : ((cs.map fun _ => true).all id) = true := by
      rw [List.all_map]
      exact List.all_eq_true.mpr fun _ _ => rfl
    rw [e]
    walk_at "rd"
    have x12 := x1.trans x2
    refine lc_list BoolR (fun _ => true) (fun _ : Cfg => false) (x2.mono hv) x2.sub (by omega) (fun i c F3 H3 v hy x hv3 Z Z0 hZ _ => ?_) fun D3 F3 H3 x3 hD3 => ?_
    · walk_at "wp"
      walk_at "rd"
      refine ⟨rfl, ?_⟩
      walk_at "rd"
      refine hv3.hands T x.sub ?_
      walk_at "rd"
      obtain ⟨c0, hc0⟩ := get_some (xs := cs) (i := 0) (by omega)
      obtain ⟨v0, hv0, r0⟩ := ha.get hc0
      refine rd_ixL (v := v0) ((x12.trans x).sl hs) (show atI vs ((0 : Nat) : Int) = _ from atI_get2 hv0) ?_
      refine (sm_mo (x12.ff.trans x.ff) r0).hands T x.sub ?_
      walk_at "rd"
      exact hZ rfl _ _ _ (Xt.refl x.sub) rfl
    · rw [filtT] at hD3
      walk_at "rd"
      refine rd_any hD3 x3.sub ?_
      have e : ((cs.map fun _ => false).any id) = false := by
        rw [List.any_map]
        exact List.any_eq_false.mpr fun _ _ => by simp
      rw [e]
      walk_at "rd"
      have x123 := x12.trans x3
      refine rd_listL (x123.sl hs) fun l hl => ?_
      exact q _ _ _ (x123.new hl) ⟨l, vs, rfl, SqL.of upd_same, ha.imp fun _ _ r => sm_mo (x123.ff.trans (same_new (x3.sub.free hl))) r⟩
def sp_Land_init (K : PySem.W.Frag) : Sp := fun vs H Q _ => ∃ (F H0 : Hp) (x dx l t : Addr) (ar : V) (c : LCfg), vs = [.ref x, ar, .int (c.ev : Int), .ref l, .ref t, .int c.st] ∧ H = upd (upd H0 dx (.own x)) x (.ins (He.ga K "Land") dx []) ∧ H0 x = none ∧ H0 dx = none ∧ dx ≠ x ∧ Same F H0 ∧ LstR K (IsLists K) F ar c.areas ∧ SqL K F l ((lotsOf c.f).map .int) ∧ F t = some (.tup [.int c.ht, .int c.hb]) ∧ LOk c ∧
  ∀ F' H', Xt F H0 F' H' → IsLand K F' (.ref x) c → Q .non H'
theorem ok_Land_init (T : Txt K mg) : Ok P w K mg base 3 (He.ma K (He.ga K "Land") "__init__") (sp_Land_init K) := by
  refine Ok.of T.fd_Land_init Txt.b_Land_init sc_Land_init (fun vs H Q E h => ?_) fun cdv A outer s H vs Q E hr h => ?_
  · obtain ⟨_, _, _, _, _, _, _, _, rfl, _⟩ := h
    rfl
  obtain ⟨F, H0, x, dx, l, t, ar, c, rfl, rfl, hx, hdx, hne, s, har, hl, ht, ok, q⟩ := h
  have m := Mks.start (C := He.ga K "Land") (Xt.refl s) hx hdx hne
  have st := ok.st
  have l1 := ok.a1
  have e2 := ok.e2
  refine ⟨_, (pss_cons (ps_asg (pe_cl (ok_areas_of T) (hr.mono (by decide)) (by rfl) T.g_areas_of (pa_cons (pv 1) pa_nil)) (pg_at (pv 0)))
      (pss_cons (ps_asg (pe_at (pe_ix ix_seq (pe_at (pv 0)) pe_int (fun _ _ => rfl))) (pg_at (pv 0)))
      (pss_cons (ps_if (PW.pt (pw_or (pt_not (pt_val (pe_cl (ok_is_count T) (hr.mono (by decide)) (by rfl) T.g_is_count (pa_cons (pv 2) (pa_cons (pe_globI (by rfl) T.i_MOST_EVENED) pa_nil))))) (pw_or (pt_not (pt_val (pe_cl (ok_is_count T) (hr.mono (by decide)) (by rfl) T.g_is_count (pa_cons (pv 5) (pa_cons (pe_globI (by rfl) T.i_MOST_STEP_lands) pa_nil))))) (pw_or1 (pt_cmpR op_lt (pv 5) pe_int (nomark _)))))) (pss_one ps_never) pss_nil)
      (pss_cons (ps_try0 rfl rfl ⟨by rfl, by decide, .inl T.g_NoWay⟩ rfl (fun _ _ => (pss_one (ps_asg (pe_tup (pa_cons (pe_cl (ok_lots_of T) (hr.mono (by decide)) (by rfl) T.g_lots_of (pa_cons (atK (K := K) rfl (pv 0)) (pa_cons (pv 3) pa_nil))) (pa_cons (pe_cl (ok_hurdle_of T) (hr.mono (by decide)) (by rfl) T.g_hurdle_of (pa_cons (pv 4) pa_nil)) pa_nil))) (pg_tupK (K := K) (n := 2) rfl rfl (pgs_cons (pgAtK (K := K) rfl (pv 0)) (pgs_cons (pgAtK (K := K) rfl (pv 0)) pgs_nil)))))) (fun _ _ => (pss_one ps_never)))
      (pss_one (ps_asg (pe_tup (pa_cons (pv 2) (pa_cons (pv 5) pa_nil))) (pg_tup rfl (pgs_cons (pg_at (pv 0)) (pgs_cons (pg_at (pv 0)) pgs_nil))))))))), ?_⟩
  walk_at "st"
  walk_at "rd"
  refine ⟨F, ar, c.areas, rfl, m.x.sub, har, ok.a1, ok.a2, fun u F1 H1 x1 hu => ?_⟩
  have m := m.step x1
  walk_at "rd"
  refine .inr ⟨x, _, dx, _, _, _, rfl, m.e, T.s_Land, T.sl_Land_areas, ?_⟩
  have m := m.set (i := 0) (y := .ref u)
  walk_at "rd"
  refine .inr ⟨x, _, dx, _, _, _, _, rfl, m.e, T.s_Land, T.sl_Land_areas, rfl, ?_⟩
  obtain ⟨_, vs, e, hus, hua⟩ := id hu
  cases e
  obtain ⟨c0, hc0⟩ := get_some (xs := c.areas) (i := 0) (by omega)
  obtain ⟨v0, hv0, r0⟩ := hua.get hc0
  walk_at "rd"
  refine rd_ixL (v := v0) (m.x.sub.seq hus) (show atI vs ((0 : Nat) : Int) = _ from atI_get2 hv0) ?_
  refine r0.hands T m.x.sub ?_
  walk_at "rd"
  refine .inr ⟨x, _, dx, _, _, _, rfl, m.e, T.s_Land, T.sl_Land_hands, ?_⟩
  have m := m.set (i := 2) (y := .int 2)
  walk_at "rd"
  refine ⟨c.ev, 60, rfl, by omega, by omega, ?_⟩
  walk_at "rd"
  refine ⟨c.st, 9, rfl, by omega, by omega, ?_⟩
  walk_at "rd"
  refine ifF (by omega) ?_
  walk_at "rd"
  refine .inr ⟨x, _, dx, _, _, _, _, rfl, m.e, T.s_Land, T.sl_Land_hands, rfl, ?_⟩
  walk_at "rd"
  refine ⟨F1, l, c.f, rfl, m.x.sub, x1.ff.seq hl, fun u2 F2 H2 x2 hu2 => ?_⟩
  have m := m.step x2
  have ht2 := x2.ff _ _ (x1.ff _ _ ht)
  walk_at "rd"
  refine ⟨F2, t, c.ht, c.hb, rfl, m.x.sub, ht2, ok.h, ?_⟩
  walk_at "rd"
  refine ⟨szl (by simp), fun pt hpt => ?_⟩
  have m := m.step ((Xt.refl m.x.sub).newH (o := .tup [.ref u2, .ref t]) hpt)
  refine rd_tupG (SqT.of upd_same) rfl ?_
  walk_at "rd"
  refine .inr ⟨x, _, dx, _, _, _, rfl, m.e, T.s_Land, T.sl_Land_lots, ?_⟩
  have m := m.set (i := 4) (y := .ref u2)
  walk_at "rd"
  refine .inr ⟨x, _, dx, _, _, _, rfl, m.e, T.s_Land, T.sl_Land_hurdle, ?_⟩
  have m := m.set (i := 3) (y := .ref t)
  walk_at "rd"
  refine ⟨szl (by simp), fun pt2 hpt2 => ?_⟩
  have m := m.step ((Xt.refl m.x.sub).newH (o := .tup [.int (c.ev : Int), .int c.st]) hpt2)
  refine rd_tupG (SqT.of upd_same) rfl ?_
  walk_at "rd"
  refine .inr ⟨x, _, dx, _, _, _, rfl, m.e, T.s_Land, T.sl_Land_evened, ?_⟩
  have m := m.set (i := 1) (y := .int (c.ev : Int))
  walk_at "rd"
  refine .inr ⟨x, _, dx, _, _, _, rfl, m.e, T.s_Land, T.sl_Land_step, ?_⟩
  have m := m.set (i := 5) (y := .int c.st)
  obtain ⟨F3, x3, s3, h3⟩ := m.fin (by simp [SlX.putS])
  have e : SlX.putS 5 (.int c.st) (SlX.putS 1 (.int (c.ev : Int)) (SlX.putS 3 (.ref t) (SlX.putS 4 (.ref u2) (SlX.putS 2 (.int 2) (SlX.putS 0 (.ref u) []))))) = [some (.ref u), some (.int (c.ev : Int)), some (.int 2), some (.ref t), some (.ref u2), some (.int c.st)] := by simp [SlX.putS]
  rw [e] at h3
  walk_at "rd"
  exact q _ _ x3 ⟨x, dx, u, u2, t, rfl, h3, sm_mo (x2.ff.trans s3) hu, s3.seq hu2, SqT.of (s3 _ _ ht2), ok⟩
end
end Wp


set_option Elab.async false
set_option linter.all false
set_option maxRecDepth 100000
set_option maxHeartbeats 4000000
namespace Wp
open PySem PySem.Spec PyProof.Rows L2
theorem rd_sl {r : V → Option Int → Option Int → Hp → VK → Prop} {te : TE} {tl th : TO} {σ : L2.St} {H : Hp} {Q : VK} (h : te σ H fun x H1 => tl σ H1 fun l H2 => th σ H2 fun u H3 => r x l u H3 Q) : tSl r te tl th σ H Q := h
theorem rd_part {te : TE} {σ : L2.St} {H : Hp} {Q : Option Int → Hp → Prop} (h : te σ H fun x H1 => ∃ i, x = .int i ∧ Q (some i) H1) : tPart te σ H Q := h
theorem rd_partQ {i : Int} {Z : Int → Prop} (h : Z i) : ∃ j, V.int i = .int j ∧ Z j := ⟨i, rfl, h⟩
theorem rd_noPart {σ : L2.St} {H : Hp} {Q : Option Int → Hp → Prop} (h : Q none H) : tNoPart σ H Q := h
local macro_rules | `(tactic| walk_at "rd") => `(tactic| repeat (first
  | ((with_reducible apply rd_var); · exact rfl)
  | with_reducible refine rd_c ?_ | with_reducible refine rd_op ?_ | with_reducible refine rd_un ?_ | with_reducible refine rd_test ?_ | with_reducible refine rd_B ?_ | with_reducible refine rd_bl ?_
  | with_reducible refine rd_and ?_ | with_reducible refine rd_or ?_ | with_reducible refine rd_not ?_ | with_reducible refine rd_andV ?_ | with_reducible refine rd_orV ?_ | with_reducible refine rd_notV ?_ | with_reducible refine rd_ifE ?_
  | with_reducible refine rd_seq ?_ | with_reducible refine rd_asg ?_ | ((with_reducible apply rd_name); · (simp only [List.set_cons_zero, List.set_cons_succ]; exact rfl)) | with_reducible refine rd_ret ?_ | with_reducible refine rd_drop ?_ | with_reducible refine rd_if ?_ | with_reducible refine rd_next ?_ | with_reducible refine rd_break ?_ | with_reducible refine rd_cont ?_
  | with_reducible refine rd_cl ?_ | with_reducible refine rd_cb ?_ | with_reducible refine rd_mk ?_ | with_reducible refine rd_cons ?_ | with_reducible refine rd_nil ?_ | with_reducible refine rd_tup ?_ | with_reducible refine rd_lst ?_ | with_reducible refine rd_at ?_ | with_reducible refine rd_gAt ?_
  | with_reducible refine rd_isN ?_ | with_reducible refine rd_notN ?_ | with_reducible refine rd_abs ?_ | with_reducible refine rd_max ?_ | with_reducible refine rd_int ?_ | with_reducible refine rd_intB ?_ | with_reducible refine rd_consG ?_ | with_reducible refine rd_nilG ?_ | with_reducible refine rd_ipI ?_ | ((with_reducible apply rd_aug); · exact rfl)
  | with_reducible refine rd_par ?_ | with_reducible refine rd_par3 ?_ | ((with_reducible apply rd_parQ); · (simp only [List.set_cons_zero, List.set_cons_succ]; exact rfl)) | ((with_reducible apply rd_par3Q); · (simp only [List.set_cons_zero, List.set_cons_succ]; exact rfl))
  | with_reducible refine rd_yes ?_ | with_reducible refine rd_chain ?_ | with_reducible refine rd_bm ?_ | with_reducible refine rd_bm0 ?_ | with_reducible refine rd_me ?_ | with_reducible refine rd_augS ?_ | with_reducible refine rd_subG ?_ | with_reducible refine rd_forR ?_ | with_reducible refine rd_sl ?_ | with_reducible refine rd_part ?_ | with_reducible refine rd_partQ ?_ | with_reducible refine rd_noPart ?_ | with_reducible refine rd_lstRg ?_ | with_reducible refine rd_forL ?_ | with_reducible refine rd_forE ?_ | with_reducible refine rd_forZ ?_ | with_reducible refine rd_lcL ?_ | with_reducible refine rd_lcR ?_ | with_reducible refine rd_lcE ?_ | with_reducible refine rd_lcZ ?_ | with_reducible refine rd_while ?_
  | with_reducible refine iteT ?_ | with_reducible refine iteF ?_ | with_reducible refine ifNotT ?_ | with_reducible refine ifNotF ?_ | with_reducible refine rd_I0 ?_ | with_reducible refine rd_U ?_ | with_reducible refine rd_add ?_ | with_reducible refine rd_eqI ?_ | with_reducible refine rd_neI ?_ | with_reducible refine rd_eqB ?_))
local macro_rules | `(tactic| walk_at "st") => `(tactic| (intro σ hσ; simp only [L2.start, List.map_cons, List.map_nil, List.length_cons, List.length_nil, List.reduceReplicate, List.replicate_zero, List.append_nil, Nat.reduceAdd, Nat.reduceSub, List.cons_append, List.nil_append] at hσ; subst hσ; try dsimp only [cxOf, Cx.nox, Cx.wish]))
local macro_rules | `(tactic| walk_at "wp") => `(tactic| (simp only [List.map_cons, List.map_nil, wipe, List.set_cons_zero, List.set_cons_succ]))
/-! ### the bag -/
def hide (bg : Addr) (H : Hp) : Hp := fun b => if b = bg then none else H b
theorem hide_none {bg : Addr} {H : Hp} : hide bg H bg = none := if_pos rfl
theorem hide_ne {bg b : Addr} {H : Hp} (h : b ≠ bg) : hide bg H b = H b := if_neg h
def Bg (K : PySem.W.Frag) (F H F1 H1 : Hp) (bg : Addr) : Prop := ∃ (x y z : Int) (cl : Addr) (cs : List Int), Own F H F1 H1 bg [.int x, .int y, .int z, .ref cl] ∧ SqL K F1 cl (cs.map .int) ∧ cs.length ≤ 63
section
variable {K : PySem.W.Frag} {F H F1 H1 F2 H2 : Hp} {bg l : Addr} {acc : List V}
theorem Bg.x (B : Bg K F H F1 H1 bg) : Xt F H F1 H1 := by
  obtain ⟨_, _, _, _, _, o, _⟩ := B
  exact o.x
theorem Bg.f (B : Bg K F H F1 H1 bg) : F1 bg = none := by
  obtain ⟨_, _, _, _, _, o, _⟩ := B
  exact o.f
theorem Bg.h (B : Bg K F H F1 H1 bg) : H bg = none := by
  obtain ⟨_, _, _, _, _, o, _⟩ := B
  exact o.h
theorem Bg.some (B : Bg K F H F1 H1 bg) : ∃ xs, H1 bg = some (.lst xs) := by
  obtain ⟨_, _, _, _, _, o, _⟩ := B
  exact ⟨_, o.e⟩
theorem Bg.step (B : Bg K F H F1 H1 bg) (t : Xt F1 H1 F2 H2) : Bg K F H F2 H2 bg := by
  obtain ⟨x, y, z, cl, cs, o, hcl, hcs⟩ := B
  exact ⟨x, y, z, cl, cs, o.step t, t.ff.seq hcl, hcs⟩
/-- another list of one's own is written -/
theorem Bg.put (B : Bg K F H F1 H1 bg) {xs : List V} (o : Own F H F1 H1 l acc) (hne : l ≠ bg) : Bg K F H F1 (upd H1 l (.lst xs)) bg := by
  obtain ⟨x, y, z, cl, cs, ob, hcl, hcs⟩ := B
  exact ⟨x, y, z, cl, cs, ob.other o (Ne.symm hne), hcl, hcs⟩
theorem Bg.ne (B : Bg K F H F1 H1 bg) (hl : H1 l = none) : l ≠ bg := fun e => by
  obtain ⟨xs, h⟩ := B.some
  rw [← e, hl] at h
  cases h
/-- behind a call that takes the bag: the bag hidden -/
theorem Xt.bag (x : Xt F H F1 H1) (h : H bg = none) (f : F1 bg = none) (t : Xt F1 (hide bg H1) F2 H2) : Xt F H F2 H2 := by
  refine ⟨x.ff.trans t.ff, t.sub, fun b o e => ?_, fun b e n => ?_, x.fh⟩
  · have hb : b ≠ bg := fun z => by rw [z, h] at e; cases e
    exact t.hh b o (by rw [hide_ne hb]; exact x.hh _ _ e)
  · have hb : b ≠ bg := fun z => n (by rw [z]; exact h)
    rcases x.fr b e n with z | z
    · cases ho : H b with
      | none => exact absurd ho n
      | some o =>
        have h1 := x.hh _ _ ho
        rcases t.fr b z (by rw [hide_ne hb, h1]; exact fun z => nomatch z) with z | ⟨xs, z⟩
        · exact .inl z
        · rw [hide_ne hb, h1] at z
          exact .inr ⟨xs, z⟩
    · exact .inr z
theorem Bg.call (B : Bg K F H F1 H1 bg) (B' : Bg K F1 (hide bg H1) F2 H2 bg) : Bg K F H F2 H2 bg := by
  have h := B.h
  have f := B.f
  have x := B.x
  obtain ⟨x1, y1, z1, cl, cs, o, hcl, hcs⟩ := B'
  exact ⟨x1, y1, z1, cl, cs, ⟨x.bag h f o.x, o.f, h, o.e⟩, hcl, hcs⟩
theorem Own.bag (o : Own F H F1 H1 l acc) (hne : l ≠ bg) (B : Bg K F H F1 H1 bg) (B' : Bg K F1 (hide bg H1) F2 H2 bg) : Own F H F2 H2 l acc :=
  ⟨o.x.bag B.h B.f B'.x, B'.x.frL o.f (by rw [hide_ne hne]; exact o.e), o.h, B'.x.hh _ _ (by rw [hide_ne hne]; exact o.e)⟩
theorem Bg.enter (B : Bg K F H F1 H1 bg) : Bg K F1 (hide bg H1) F1 H1 bg := by
  obtain ⟨x, y, z, cl, cs, o, hcl, hcs⟩ := B
  refine ⟨x, y, z, cl, cs, ⟨⟨Same.refl _, o.x.sub, fun b u e => ?_, fun b e _ => .inl e, fun b u e => ?_⟩, o.f, hide_none, o.e⟩, hcl, hcs⟩
  · by_cases hb : b = bg
    · rw [hb, hide_none] at e
      cases e
    · rw [hide_ne hb] at e
      exact e
  · rw [hide_ne (ne_of_none e o.f)]
    exact o.x.sub _ _ e
end
theorem cut_ints (cs : List Int) (lo hi : Option Int) : ∃ ds : List Int, cutV (cs.map V.int) lo hi = ds.map V.int ∧ ds.length ≤ cs.length := by
  unfold cutV
  refine ⟨(cs.drop (HT.sIx (cs.map V.int).length 0 lo)).take (HT.sIx (cs.map V.int).length (cs.map V.int).length hi - HT.sIx (cs.map V.int).length 0 lo), ?_, ?_⟩
  · rw [List.map_take, List.map_drop]
  · rw [List.length_take, List.length_drop]
    omega
theorem first_int (ds : List Int) : ∃ c, (ds.map V.int ++ [V.int 0])[0]? = some (.int c) := by
  cases ds with
  | nil => exact ⟨0, rfl⟩
  | cons d ds => exact ⟨d, rfl⟩
section
variable {P : Program} {w : World} {K : PySem.W.Frag} {mg : Str → Option Value} {base : Heap}
def sp_law_bag (K : PySem.W.Frag) : Sp := fun vs H Q _ => ∃ (F : Hp) (a : Addr) (ns : List Int), vs = [.ref a] ∧ Same F H ∧ SqL K F a (ns.map .int) ∧ ns.length ≤ 63 ∧ ∀ bg F' H', Bg K F H F' H' bg → Q (.ref bg) H'
theorem ok_law_bag (T : Txt K mg) : Ok P w K mg base 1 (He.ga K "_law_bag") (sp_law_bag K) := by
  refine Ok.of T.fd_law_bag Txt.b_law_bag sc_law_bag (fun vs H Q E h => ?_) fun cdv A outer s H vs Q E hr h => ?_
  · obtain ⟨_, _, _, rfl, _⟩ := h
    rfl
  obtain ⟨F, a, ns, rfl, s, hs, hl, q⟩ := h
  refine ⟨_, (pss_one (ps_ret (pe_lst (pa_cons pe_int (pa_cons pe_int (pa_cons pe_int (pa_cons (pe_lc rfl sc_law_bag.nd (pi_list (pe_slice sl_list (pv 0) po_none (po_some pe_int))) (blkOk_by (own := [("_law_cell", 1)]) (N := ["_law_script", "_law_cell"]) (sc := (defScope s_law_bag)) (by decide +kernel)) (fun _ _ _ _ _ => (pg_name (i := 1) sc_law_bag.nd rfl (Or.inl rfl))) (fun _ _ _ _ _ => pts_nil) (fun _ _ _ _ _ => (pe_callB call_absN (by rfl) T.f_abs (by decide +kernel) (pa_cons (pv 1) pa_nil)))) pa_nil))))))), ?_⟩
  walk_at "st"
  walk_at "rd"
  refine ⟨a, _, rfl, s.seq hs, fun p hp => ?_⟩
  obtain ⟨ds, e, hds⟩ := cut_ints ns none (some 63)
  rw [e]
  have x1 := (Xt.refl s).new (o := .lst (ds.map V.int)) hp
  refine lc_list (R := IntR) IntR (fun _ => true) (fun i : Int => (i.natAbs : Int)) (ilst_of (SqL.of upd_same)) x1.sub (by omega) (fun i y F1 H2 v hy x hv Z Z0 hZ _ => ?_) fun D F1 H2 x2 hD => ?_
  · obtain rfl : v = .int y := hv
    walk_at "wp"
    walk_at "rd"
    refine ⟨rfl, ?_⟩
    walk_at "rd"
    exact hZ rfl _ _ _ (Xt.refl x.sub) rfl
  · obtain ⟨_, e, hD⟩ := ilst_to hD
    cases e
    walk_at "rd"
    refine ⟨szl (by simp), fun bg hbg => ?_⟩
    refine q bg F1 _ ⟨0, 1234567891, 0, D, _, Own.mk' (x1.trans x2) hbg, hD, ?_⟩
    rw [filtT, List.length_map]
    omega
def sp_law_take (K : PySem.W.Frag) : Sp := fun vs H Q _ => ∃ (F H0 : Hp) (bg : Addr) (m : Int), vs = [.ref bg, .int m] ∧ Bg K F H0 F H bg ∧ 1 ≤ m ∧ m ≤ 1000 ∧ ∀ d H', 0 ≤ d → d < m → Bg K F H0 F H' bg → Q (.int d) H'
theorem ok_law_take (T : Txt K mg) : Ok P w K mg base 1 (He.ga K "_law_take") (sp_law_take K) := by
  refine Ok.of T.fd_law_take Txt.b_law_take sc_law_take (fun vs H Q E h => ?_) fun cdv A outer s H vs Q E hr h => ?_
  · obtain ⟨_, _, _, _, rfl, _⟩ := h
    rfl
  obtain ⟨F, H0, bg, m, rfl, ⟨x, y, z, cl, cs, o, hcl, hcs⟩, m1, m2, q⟩ := h
  refine ⟨_, (pss_cons (ps_if (pt_cmpR (op_eq2 hr) (pe_ix ix_seq (pv 0) pe_int (fun _ _ => rfl)) pe_int (nomark _)) (pss_cons (ps_set (i := 2) sc_law_take.nd rfl (Or.inl rfl) (pe_ix ix_seq (pe_op op_add2 (pe_slice sl_list (pe_ix ix_seq (pv 0) pe_int (fun _ _ => rfl)) (po_some (pe_ix ix_seq (pv 0) pe_int (fun _ _ => rfl))) po_none) (pe_lst (pa_cons pe_int pa_nil))) pe_int (fun _ _ => rfl)))
      (pss_cons (ps_augS (pv 0) pe_int get_list pe_int ip_add set_list)
      (pss_cons (ps_asg (pe_op op_mul2 (pv 2) (pe_callTy call_intN (by rfl) T.f_int (by decide +kernel) (pa_cons (pe_cmpR op_ge (pv 2) (pe_op op_pow pe_int pe_int) (nomark _)) pa_nil))) (pg_sub (pv 0) pe_int set_list))
      (pss_cons (ps_set (i := 3) sc_law_take.nd rfl (Or.inl rfl) (pe_op op_add2 (pe_op op_add2 (pe_op op_mul2 (pe_ix ix_seq (pv 0) pe_int (fun _ _ => rfl)) pe_int) (pe_op op_mod (pe_callTy call_intN (by rfl) T.f_int (by decide +kernel) (pa_cons (pv 2) pa_nil)) pe_int)) (pe_op op_mul2 pe_int (pe_ix ix_seq (pv 0) pe_int (fun _ _ => rfl)))))
      (pss_one (ps_asg (pe_op op_mod (pe_callTy call_intN (by rfl) T.f_int (by decide +kernel) (pa_cons (pv 3) pa_nil)) pe_int) (pg_sub (pv 0) pe_int set_list))))))) pss_nil)
      (pss_cons (ps_if (pt_cmpR op_gt (pe_ix ix_seq (pv 0) pe_int (fun _ _ => rfl)) pe_int (nomark _)) (pss_cons (ps_set (i := 4) sc_law_take.nd rfl (Or.inl rfl) (pe_op op_mod (pe_callTy call_intN (by rfl) T.f_int (by decide +kernel) (pa_cons (pe_ix ix_seq (pv 0) pe_int (fun _ _ => rfl)) pa_nil)) (pv 1)))
      (pss_cons (ps_asg (pe_op op_fdiv (pe_callTy call_intN (by rfl) T.f_int (by decide +kernel) (pa_cons (pe_ix ix_seq (pv 0) pe_int (fun _ _ => rfl)) pa_nil)) (pv 1)) (pg_sub (pv 0) pe_int set_list))
      (pss_one (ps_ret (pv 4))))) pss_nil)
      (pss_cons (ps_set (i := 5) sc_law_take.nd rfl (Or.inl rfl) (pe_op op_mod (pe_callTy call_intN (by rfl) T.f_int (by decide +kernel) (pa_cons (pe_op op_mul2 (pe_op op_add2 (pe_ix ix_seq (pv 0) pe_int (fun _ _ => rfl)) pe_int) pe_int) pa_nil)) pe_int))
      (pss_cons (ps_set (i := 6) sc_law_take.nd rfl (Or.inl rfl) (pe_op op_mod (pe_callTy call_intN (by rfl) T.f_int (by decide +kernel) (pa_cons (pe_op op_mul2 (pe_op op_mod (pe_callTy call_intN (by rfl) T.f_int (by decide +kernel) (pa_cons (pe_op op_mul2 (pv 5) (pv 5)) pa_nil)) pe_int) pe_int) pa_nil)) pe_int))
      (pss_one (ps_ret (pe_op op_mod (pe_callTy call_intN (by rfl) T.f_int (by decide +kernel) (pa_cons (pe_op op_fdiv (pv 6) pe_int) pa_nil)) (pv 1)))))))), ?_⟩
  walk_at "st"
  walk_at "rd"
  refine rd_ixL (SqL.of o.e) rfl ?_
  walk_at "rd"
  refine ifD (fun h0 => ?_) fun h0 => ?_
  · walk_at "rd"
    refine rd_ixL (SqL.of o.e) rfl ?_
    walk_at "rd"
    refine rd_ixL (SqL.of o.e) rfl ?_
    walk_at "rd"
    refine ⟨cl, _, rfl, o.x.sub.seq hcl, fun p hp => ?_⟩
    obtain ⟨ds, e, hds⟩ := cut_ints cs (some z) none
    rw [e]
    have x1 := (Xt.refl o.x.sub).newH (o := .lst (ds.map V.int)) hp
    walk_at "rd"
    refine ⟨szl (by simp), fun p2 hp2 => ?_⟩
    have x2 := x1.newH (o := .lst [.int 0]) hp2
    refine rd_cat ((same_new hp2) _ _ upd_same) upd_same (szl (by simp; omega)) fun p3 hp3 => ?_
    have x3 := x2.newH (o := .lst (ds.map V.int ++ [.int 0])) hp3
    obtain ⟨c, hc⟩ := first_int ds
    walk_at "rd"
    refine rd_ixL (v := .int c) (SqL.of upd_same) (show atI _ ((0 : Nat) : Int) = _ from atI_get2 hc) ?_
    have o := o.step x3
    walk_at "rd"
    refine rd_ixLg (SqL.of o.e) rfl ?_
    walk_at "rd"
    refine rd_setL o.e rfl ?_
    have o := o.set (acc' := [.int x, .int y, .int (z + 1), .ref cl])
    walk_at "rd"
    refine rd_I ⟨by decide, by decide, by decide⟩ ?_
    walk_at "rd"
    refine rd_mul (.inr ⟨by split <;> decide, by split <;> decide⟩) ?_
    walk_at "rd"
    refine rd_setL o.e rfl ?_
    generalize c * (if decide ((10 : Int) ^ (18 : Int).toNat ≤ c) = true then 1 else 0) = x'
    have o := o.set (acc' := [.int x', .int y, .int (z + 1), .ref cl])
    walk_at "rd"
    refine rd_ixL (SqL.of o.e) rfl ?_
    walk_at "rd"
    refine rd_mul (.inr ⟨by decide, by decide⟩) ?_
    walk_at "rd"
    refine rd_I (by decide) ?_
    walk_at "rd"
    refine rd_ixL (SqL.of o.e) rfl ?_
    refine rd_mul (.inl ⟨by decide, by decide⟩) ?_
    walk_at "rd"
    refine rd_I (by decide) ?_
    walk_at "rd"
    refine rd_setL o.e rfl ?_
    generalize (y * 48271 + c % 2147483647 + 7919 * (z + 1)) % 2147483647 = y
    have o := o.set (acc' := [.int x', .int y, .int (z + 1), .ref cl])
    walk_at "rd"
    refine rd_ixL (SqL.of o.e) rfl ?_
    walk_at "rd"
    refine ifD (fun hx => ?_) fun hx => ?_
    · walk_at "rd"
      refine rd_ixL (SqL.of o.e) rfl ?_
      walk_at "rd"
      refine rd_I (by omega) ?_
      walk_at "rd"
      refine rd_ixL (SqL.of o.e) rfl ?_
      walk_at "rd"
      refine rd_I ⟨by omega, by omega⟩ ?_
      walk_at "rd"
      refine rd_setL o.e rfl ?_
      walk_at "rd"
      exact q _ _ (Int.emod_nonneg _ (by omega)) (Int.emod_lt_of_pos _ (by omega)) ⟨_, _, _, cl, cs, o.set, hcl, hcs⟩
    · walk_at "rd"
      refine rd_ixL (SqL.of o.e) rfl ?_
      walk_at "rd"
      refine rd_mul (.inr ⟨by decide, by decide⟩) ?_
      walk_at "rd"
      refine rd_I (by decide) ?_
      walk_at "rd"
      have b1 := Int.emod_nonneg ((y + 1) * 39373) (b := 1000000007) (by decide)
      have b2 := Int.emod_lt_of_pos ((y + 1) * 39373) (b := 1000000007) (by decide)
      generalize (y + 1) * 39373 % 1000000007 = early at b1 b2 ⊢
      refine rd_mul (.inr ⟨by omega, by omega⟩) ?_
      walk_at "rd"
      refine rd_I (by decide) ?_
      refine rd_mul (.inr ⟨by decide, by decide⟩) ?_
      walk_at "rd"
      refine rd_I (by decide) ?_
      walk_at "rd"
      refine rd_I ⟨by decide, by decide⟩ ?_
      walk_at "rd"
      refine rd_I (by omega) ?_
      exact q _ _ (Int.emod_nonneg _ (by omega)) (Int.emod_lt_of_pos _ (by omega)) ⟨_, _, _, cl, cs, o, hcl, hcs⟩
  · walk_at "rd"
    refine rd_ixL (SqL.of o.e) rfl ?_
    walk_at "rd"
    refine ifD (fun hx => ?_) fun hx => ?_
    · walk_at "rd"
      refine rd_ixL (SqL.of o.e) rfl ?_
      walk_at "rd"
      refine rd_I (by omega) ?_
      walk_at "rd"
      refine rd_ixL (SqL.of o.e) rfl ?_
      walk_at "rd"
      refine rd_I ⟨by omega, by omega⟩ ?_
      walk_at "rd"
      refine rd_setL o.e rfl ?_
      walk_at "rd"
      exact q _ _ (Int.emod_nonneg _ (by omega)) (Int.emod_lt_of_pos _ (by omega)) ⟨_, _, _, cl, cs, o.set, hcl, hcs⟩
    · walk_at "rd"
      refine rd_ixL (SqL.of o.e) rfl ?_
      walk_at "rd"
      refine rd_mul (.inr ⟨by decide, by decide⟩) ?_
      walk_at "rd"
      refine rd_I (by decide) ?_
      walk_at "rd"
      have b1 := Int.emod_nonneg ((y + 1) * 39373) (b := 1000000007) (by decide)
      have b2 := Int.emod_lt_of_pos ((y + 1) * 39373) (b := 1000000007) (by decide)
      generalize (y + 1) * 39373 % 1000000007 = early at b1 b2 ⊢
      refine rd_mul (.inr ⟨by omega, by omega⟩) ?_
      walk_at "rd"
      refine rd_I (by decide) ?_
      refine rd_mul (.inr ⟨by decide, by decide⟩) ?_
      walk_at "rd"
      refine rd_I (by decide) ?_
      walk_at "rd"
      refine rd_I ⟨by decide, by decide⟩ ?_
      walk_at "rd"
      refine rd_I (by omega) ?_
      exact q _ _ (Int.emod_nonneg _ (by omega)) (Int.emod_lt_of_pos _ (by omega)) ⟨_, _, _, cl, cs, o, hcl, hcs⟩
/-! ### what draws -/
def sp_law_one (K : PySem.W.Frag) : Sp := fun vs H Q _ => ∃ (F H0 : Hp) (bg l : Addr) (ws : List V), vs = [.ref bg, .ref l] ∧ Bg K F H0 F H bg ∧ SqL K H l ws ∧ l ≠ bg ∧ 1 ≤ ws.length ∧ ws.length ≤ 100 ∧ ∀ (d : Nat) v H', ws[d]? = some v → Bg K F H0 F H' bg → Q v H'
theorem ok_law_one (T : Txt K mg) : Ok P w K mg base 2 (He.ga K "_law_one") (sp_law_one K) := by
  refine Ok.of T.fd_law_one Txt.b_law_one sc_law_one (fun vs H Q E h => ?_) fun cdv A outer s H vs Q E hr h => ?_
  · obtain ⟨_, _, _, _, _, rfl, _⟩ := h
    rfl
  obtain ⟨F, H0, bg, l, ws, rfl, B, hl, hne, l1, l2, q⟩ := h
  refine ⟨_, (pss_one (ps_ret (pe_ix ix_seq (pv 1) (pe_cl (ok_law_take T) (hr.mono (by decide)) (by rfl) T.g_law_take (pa_cons (pv 0) (pa_cons (pe_callB call_lenN (by rfl) T.f_len PySem.boot_len (pa_cons (pv 1) pa_nil)) pa_nil))) (fun _ _ => rfl)))), ?_⟩
  walk_at "st"
  walk_at "rd"
  refine rd_lenL hl ?_
  walk_at "rd"
  refine ⟨F, hide bg H, bg, ws.length, rfl, B.enter, by omega, by omega, fun d H' d0 d1 B' => ?_⟩
  obtain ⟨n, rfl⟩ := Int.eq_ofNat_of_zero_le d0
  obtain ⟨v, hv⟩ := get_some (xs := ws) (i := n) (by omega)
  have hl' : SqL K H' l ws := by
    rcases hl with (h | ⟨o, h⟩) | h
    · exact .inl (.inl (B'.x.hh _ _ (by rw [hide_ne hne]; exact h)))
    · exact .inl (.inr ⟨o, B'.x.hh _ _ (by rw [hide_ne hne]; exact h)⟩)
    · exact .inr h
  refine rd_ixL hl' (atI_get2 hv) ?_
  exact q n v _ hv (B.call B')
end
end Wp


set_option Elab.async false
set_option linter.all false
set_option maxRecDepth 100000
set_option maxHeartbeats 4000000
namespace Wp
open PySem PySem.Spec PyProof.Rows L2
local macro_rules | `(tactic| walk_at "rd") => `(tactic| repeat (first
  | ((with_reducible apply rd_var); · exact rfl)
  | with_reducible refine rd_c ?_ | with_reducible refine rd_op ?_ | with_reducible refine rd_un ?_ | with_reducible refine rd_test ?_ | with_reducible refine rd_B ?_ | with_reducible refine rd_bl ?_
  | with_reducible refine rd_and ?_ | with_reducible refine rd_or ?_ | with_reducible refine rd_not ?_ | with_reducible refine rd_andV ?_ | with_reducible refine rd_orV ?_ | with_reducible refine rd_notV ?_ | with_reducible refine rd_ifE ?_
  | with_reducible refine rd_seq ?_ | with_reducible refine rd_asg ?_ | ((with_reducible apply rd_name); · (simp only [List.set_cons_zero, List.set_cons_succ]; exact rfl)) | with_reducible refine rd_ret ?_ | with_reducible refine rd_drop ?_ | with_reducible refine rd_if ?_ | with_reducible refine rd_next ?_ | with_reducible refine rd_break ?_ | with_reducible refine rd_cont ?_
  | with_reducible refine rd_cl ?_ | with_reducible refine rd_cb ?_ | with_reducible refine rd_mk ?_ | with_reducible refine rd_cons ?_ | with_reducible refine rd_nil ?_ | with_reducible refine rd_tup ?_ | with_reducible refine rd_lst ?_ | with_reducible refine rd_at ?_ | with_reducible refine rd_gAt ?_
  | with_reducible refine rd_isN ?_ | with_reducible refine rd_notN ?_ | with_reducible refine rd_abs ?_ | with_reducible refine rd_max ?_ | with_reducible refine rd_int ?_ | with_reducible refine rd_intB ?_ | with_reducible refine rd_consG ?_ | with_reducible refine rd_nilG ?_ | with_reducible refine rd_ipI ?_ | ((with_reducible apply rd_aug); · exact rfl)
  | with_reducible refine rd_par ?_ | with_reducible refine rd_par3 ?_ | ((with_reducible apply rd_parQ); · (simp only [List.set_cons_zero, List.set_cons_succ]; exact rfl)) | ((with_reducible apply rd_par3Q); · (simp only [List.set_cons_zero, List.set_cons_succ]; exact rfl))
  | with_reducible refine rd_yes ?_ | with_reducible refine rd_chain ?_ | with_reducible refine rd_bm ?_ | with_reducible refine rd_bm0 ?_ | with_reducible refine rd_me ?_ | with_reducible refine rd_augS ?_ | with_reducible refine rd_subG ?_ | with_reducible refine rd_forR ?_ | with_reducible refine rd_sl ?_ | with_reducible refine rd_part ?_ | with_reducible refine rd_partQ ?_ | with_reducible refine rd_noPart ?_ | with_reducible refine rd_lstRg ?_ | with_reducible refine rd_forL ?_ | with_reducible refine rd_forE ?_ | with_reducible refine rd_forZ ?_ | with_reducible refine rd_lcL ?_ | with_reducible refine rd_lcR ?_ | with_reducible refine rd_lcE ?_ | with_reducible refine rd_lcZ ?_ | with_reducible refine rd_while ?_
  | with_reducible refine iteT ?_ | with_reducible refine iteF ?_ | with_reducible refine ifNotT ?_ | with_reducible refine ifNotF ?_ | with_reducible refine rd_I0 ?_ | with_reducible refine rd_U ?_ | with_reducible refine rd_add ?_ | with_reducible refine rd_eqI ?_ | with_reducible refine rd_neI ?_ | with_reducible refine rd_eqB ?_))
local macro_rules | `(tactic| walk_at "st") => `(tactic| (intro σ hσ; simp only [L2.start, List.map_cons, List.map_nil, List.length_cons, List.length_nil, List.reduceReplicate, List.replicate_zero, List.append_nil, Nat.reduceAdd, Nat.reduceSub, List.cons_append, List.nil_append] at hσ; subst hσ; try dsimp only [cxOf, Cx.nox, Cx.wish]))
local macro_rules | `(tactic| walk_at "wp") => `(tactic| (simp only [List.map_cons, List.map_nil, wipe, List.set_cons_zero, List.set_cons_succ]))
section
variable {P : Program} {w : World} {K : PySem.W.Frag} {mg : Str → Option Value} {base : Heap}
/-! ### mixed -/
theorem take_insert_perm {α : Type} (xs : List α) (n : Nat) (y : α) : (xs.take n ++ [y] ++ xs.drop n).Perm (xs ++ [y]) := by
  rw [List.append_assoc]
  have h1 : ([y] ++ xs.drop n).Perm (xs.drop n ++ [y]) := List.perm_append_comm
  have h2 := List.Perm.append_left (xs.take n) h1
  have e : xs ++ [y] = xs.take n ++ (xs.drop n ++ [y]) := by rw [← List.append_assoc, List.take_append_drop]
  rw [e]
  exact h2
def sp_law_mixed (K : PySem.W.Frag) : Sp := fun vs H Q _ => ∃ (F H0 : Hp) (bg l : Addr) (ns : List Int), vs = [.ref bg, .ref l] ∧ Bg K F H0 F H bg ∧ SqL K F l (ns.map .int) ∧ ns.length ≤ 10 ∧ ∀ (p : Addr) (ms : List Int) (F' H' : Hp), ms.Perm ns → Bg K F H0 F' H' bg → F' p = some (.lst (ms.map .int)) → Q (.ref p) H'
theorem ok_law_mixed (T : Txt K mg) : Ok P w K mg base 2 (He.ga K "_law_mixed") (sp_law_mixed K) := by
  refine Ok.of T.fd_law_mixed Txt.b_law_mixed sc_law_mixed (fun vs H Q E h => ?_) fun cdv A outer s H vs Q E hr h => ?_
  · obtain ⟨_, _, _, _, _, rfl, _⟩ := h
    rfl
  obtain ⟨F, H0, bg, l, ns, rfl, B, hl, hlen, q⟩ := h
  refine ⟨_, (pss_cons (ps_set (i := 2) sc_law_mixed.nd rfl (Or.inl rfl) (pe_lst pa_nil))
      (pss_cons (ps_for PassesOwn.never rfl (pi_list (pv 1)) (pg_name (i := 3) sc_law_mixed.nd rfl (Or.inl rfl)) (pss_one (ps_expr (pe_bm PySem.F.plainAttrs_list PySem.F.slot_list_insert PySem.F.type_list_insert mt_insert (pv 2) (pa_cons (pe_cl (ok_law_take T) (hr.mono (by decide)) (by rfl) T.g_law_take (pa_cons (pv 0) (pa_cons (pe_op op_add2 (pe_callB call_lenN (by rfl) T.f_len PySem.boot_len (pa_cons (pv 2) pa_nil)) pe_int) pa_nil))) (pa_cons (pv 3) pa_nil))))))
      (pss_one (ps_ret (pv 2))))), ?_⟩
  walk_at "st"
  walk_at "rd"
  refine ⟨szl (by simp), fun p hp => ?_⟩
  have hne : p ≠ bg := B.ne hp
  have o : Own F H0 F (upd H p (.lst [])) p [] := Own.mk' B.x hp
  have B : Bg K F H0 F (upd H p (.lst [])) bg := B.step ((Xt.refl B.x.sub).newH hp)
  walk_at "rd"
  refine fo_list (R := IntR) (F := F) (fun i σ F1 H1 => ∃ (y3 : Option V) (ms : List Int), σ = [some (.ref bg), some (.ref l), some (.ref p), y3] ∧ F1 = F ∧ Bg K F H0 F H1 bg ∧ Own F H0 F H1 p (ms.map .int) ∧ ms.Perm (ns.take i)) (ilst_of hl)
    ⟨_, [], rfl, rfl, B, o, List.Perm.refl _⟩ (fun i σ F1 H1 ⟨_, _, _, e, B, _⟩ => by subst e; exact ⟨Same.refl _, B.x.sub⟩) ?_ ?_
  · rintro i y vy σ F1 H1 hy hv ⟨y3, ms, rfl, rfl, B, o, hperm⟩
    obtain rfl : vy = .int y := hv
    have hml : ms.length ≤ 10 := by
      rw [hperm.length_eq, List.length_take]
      omega
    walk_at "rd"
    refine ⟨ty_list (SqL.of o.e), ?_⟩
    walk_at "rd"
    refine rd_lenL (SqL.of o.e) ?_
    rw [List.length_map]
    walk_at "rd"
    refine ⟨F1, hide bg H1, bg, _, rfl, B.enter, by omega, by omega, fun d H2 d0 d1 B' => ?_⟩
    have o := o.bag hne B B'
    have B := B.call B'
    walk_at "rd"
    refine ⟨p, _, d, .int y, rfl, rfl, o.e, szl (by rw [List.length_map]; omega), d0, by omega, ?_⟩
    obtain ⟨n, rfl⟩ := Int.eq_ofNat_of_zero_le d0
    have e : (ms.map V.int).take (n : Int).toNat ++ [V.int y] ++ (ms.map V.int).drop (n : Int).toNat = (ms.take n ++ [y] ++ ms.drop n).map V.int := by
      rw [Int.toNat_natCast, List.map_append, List.map_append, List.map_take, List.map_drop]
      rfl
    rw [e]
    refine ⟨_, _, ms.take n ++ [y] ++ ms.drop n, rfl, rfl, B.put o hne, o.set, ?_⟩
    rw [take_snoc hy]
    exact (take_insert_perm ms n y).trans (hperm.append_right [y])
  · rintro σ F1 H1 ⟨y3, ms, rfl, rfl, B, o, hperm⟩
    rw [List.take_length] at hperm
    walk_at "rd"
    refine q p ms (upd F1 p (.lst (ms.map .int))) _ hperm ?_ upd_same
    obtain ⟨x, y, z, cl, cs, ob, hcl, hcs⟩ := B
    have x2 := o.fin
    exact ⟨x, y, z, cl, cs, ⟨x2, by rw [upd_ne hne.symm]; exact ob.f, ob.h, ob.e⟩, o.ff.seq hcl, hcs⟩
/-! ### an area -/
def AreaR : Hp → V → Cfg → Prop := fun F v c => ∃ a p hu nm, v = .ref a ∧ F a = some (.tup [nm, .int (c.S : Int), .ref p, .ref hu, .int c.st]) ∧ F p = some (.lst ((lotsOf c.f).map .int)) ∧ F hu = some (.tup [.int c.ht, .int c.hb]) ∧ CfgOk c
instance : Mono AreaR := ⟨fun s h => by
  obtain ⟨a, p, hu, nm, e, h1, h2, h3, h4⟩ := h
  exact ⟨a, p, hu, nm, e, s _ _ h1, s _ _ h2, s _ _ h3, h4⟩⟩
theorem lots_of_perm {ms : List Int} (h : ms.Perm [0, 1]) : ∃ f, ms = lotsOf f := by
  have hl := h.length_eq
  match ms, hl with
  | [a, b], _ =>
    have ha := h.mem_iff.mp (List.mem_cons_self (a := a) (l := [b]))
    have hb := h.mem_iff.mp (show b ∈ [a, b] by simp)
    have nd : [a, b].Nodup := h.nodup_iff.mpr (by decide)
    simp at ha hb nd
    by_cases h0 : a = 0
    · exact ⟨true, by rw [h0, show b = 1 by omega]; rfl⟩
    · exact ⟨false, by rw [show a = 1 by omega, show b = 0 by omega]; rfl⟩
def HurX : Hp → V → Int × Int → Prop := fun F v h => ∃ a, v = .ref a ∧ F a = some (.tup [.int h.1, .int h.2]) ∧ HurOk h.1 h.2
instance : Mono HurX := ⟨fun s h => by
  obtain ⟨a, e, h1, h2⟩ := h
  exact ⟨a, e, s _ _ h1, h2⟩⟩
theorem hurX_new {F : Hp} {p : Addr} {a b : Int} (h : HurOk a b) : HurX (upd F p (.tup [.int a, .int b])) (.ref p) (a, b) := ⟨p, rfl, upd_same, h⟩
def sp_law_area (K : PySem.W.Frag) : Sp := fun vs H Q _ => ∃ (F H0 : Hp) (bg : Addr), vs = [.ref bg, .int 2] ∧ Bg K F H0 F H bg ∧ ∀ v c F' H', AreaR F' v c → Bg K F H0 F' H' bg → Q v H'
theorem ok_law_area (T : Txt K mg) : Ok P w K mg base 3 (He.ga K "_law_area") (sp_law_area K) := by
  refine Ok.of T.fd_law_area Txt.b_law_area sc_law_area (fun vs H Q E h => ?_) fun cdv A outer s H vs Q E hr h => ?_
  · obtain ⟨_, _, _, rfl, _⟩ := h
    rfl
  obtain ⟨F, H0, bg, rfl, B, q⟩ := h
  refine ⟨_, (pss_cons (ps_set (i := 2) sc_law_area.nd rfl (Or.inl rfl) (pe_cl (ok_law_one T) (hr.mono (by decide)) (by rfl) T.g_law_one (pa_cons (pv 0) (pa_cons (pe_lst (pa_cons (pe_tup (pa_cons pe_int (pa_cons pe_int pa_nil))) (pa_cons (pe_tup (pa_cons pe_int (pa_cons pe_int pa_nil))) (pa_cons (pe_tup (pa_cons pe_int (pa_cons pe_int pa_nil))) (pa_cons (pe_tup (pa_cons pe_int (pa_cons pe_int pa_nil))) (pa_cons (pe_tup (pa_cons pe_int (pa_cons pe_int pa_nil))) (pa_cons (pe_tup (pa_cons pe_int (pa_cons pe_int pa_nil))) pa_nil))))))) pa_nil))))
      (pss_one (ps_ret (pe_tup (pa_cons pe_str (pa_cons (pe_op op_add2 pe_int (pe_cl (ok_law_take T) (hr.mono (by decide)) (by rfl) T.g_law_take (pa_cons (pv 0) (pa_cons pe_int pa_nil)))) (pa_cons (pe_cl (ok_law_mixed T) (hr.mono (by decide)) (by rfl) T.g_law_mixed (pa_cons (pv 0) (pa_cons (pe_listRg rfl (by rfl) T.f_list (prg_1 (by rfl) T.f_range (pv 1))) pa_nil))) (pa_cons (pv 2) (pa_cons (pe_op op_add2 pe_int (pe_cl (ok_law_take T) (hr.mono (by decide)) (by rfl) T.g_law_take (pa_cons (pv 0) (pa_cons pe_int pa_nil)))) pa_nil))))))))), ?_⟩
  walk_at "st"
  walk_at "rd"
  have t0 := Xt.refl B.x.sub
  refine ⟨szl (by simp), fun p1 hp1 => ?_⟩
  have t1 := t0.new (o := .tup [.int 0, .int 1]) hp1
  walk_at "rd"
  refine ⟨szl (by simp), fun p2 hp2 => ?_⟩
  have t2 := t1.new (o := .tup [.int 0, .int 1]) hp2
  walk_at "rd"
  refine ⟨szl (by simp), fun p3 hp3 => ?_⟩
  have t3 := t2.new (o := .tup [.int 1, .int 4]) hp3
  walk_at "rd"
  refine ⟨szl (by simp), fun p4 hp4 => ?_⟩
  have t4 := t3.new (o := .tup [.int 2, .int 5]) hp4
  walk_at "rd"
  refine ⟨szl (by simp), fun p5 hp5 => ?_⟩
  have t5 := t4.new (o := .tup [.int 1, .int 2]) hp5
  walk_at "rd"
  refine ⟨szl (by simp), fun p6 hp6 => ?_⟩
  have t6 := t5.new (o := .tup [.int 2, .int 3]) hp6
  walk_at "rd"
  refine ⟨szl (by simp), fun pl hpl => ?_⟩
  have n2 := same_new (o := .tup [.int 0, .int 1]) (t1.sub.free hp2)
  have n3 := same_new (o := .tup [.int 1, .int 4]) (t2.sub.free hp3)
  have n4 := same_new (o := .tup [.int 2, .int 5]) (t3.sub.free hp4)
  have n5 := same_new (o := .tup [.int 1, .int 2]) (t4.sub.free hp5)
  have n6 := same_new (o := .tup [.int 2, .int 3]) (t5.sub.free hp6)
  have c1 := sm_mo (n2.trans (n3.trans (n4.trans (n5.trans n6)))) (hurX_new (F := F) (p := p1) (a := 0) (b := 1) ⟨by decide, by decide, by decide, by decide, by decide⟩)
  have c2 := sm_mo (n3.trans (n4.trans (n5.trans n6))) (hurX_new (F := upd F p1 (.tup [.int 0, .int 1])) (p := p2) (a := 0) (b := 1) ⟨by decide, by decide, by decide, by decide, by decide⟩)
  have c3 := sm_mo (n4.trans (n5.trans n6)) (hurX_new (F := upd (upd F p1 (.tup [.int 0, .int 1])) p2 (.tup [.int 0, .int 1])) (p := p3) (a := 1) (b := 4) ⟨by decide, by decide, by decide, by decide, by decide⟩)
  have c4 := sm_mo (n5.trans n6) (hurX_new (F := upd (upd (upd F p1 (.tup [.int 0, .int 1])) p2 (.tup [.int 0, .int 1])) p3 (.tup [.int 1, .int 4])) (p := p4) (a := 2) (b := 5) ⟨by decide, by decide, by decide, by decide, by decide⟩)
  have c5 := sm_mo n6 (hurX_new (F := upd (upd (upd (upd F p1 (.tup [.int 0, .int 1])) p2 (.tup [.int 0, .int 1])) p3 (.tup [.int 1, .int 4])) p4 (.tup [.int 2, .int 5])) (p := p5) (a := 1) (b := 2) ⟨by decide, by decide, by decide, by decide, by decide⟩)
  have c6 := hurX_new (F := upd (upd (upd (upd (upd F p1 (.tup [.int 0, .int 1])) p2 (.tup [.int 0, .int 1])) p3 (.tup [.int 1, .int 4])) p4 (.tup [.int 2, .int 5])) p5 (.tup [.int 1, .int 2])) (p := p6) (a := 2) (b := 3) ⟨by decide, by decide, by decide, by decide, by decide⟩
  generalize upd (upd (upd (upd (upd (upd F p1 (.tup [.int 0, .int 1])) p2 (.tup [.int 0, .int 1])) p3 (.tup [.int 1, .int 4])) p4 (.tup [.int 2, .int 5])) p5 (.tup [.int 1, .int 2])) p6 (.tup [.int 2, .int 3]) = F1 at t6 c1 c2 c3 c4 c5 c6
  generalize upd (upd (upd (upd (upd (upd H p1 (.tup [.int 0, .int 1])) p2 (.tup [.int 0, .int 1])) p3 (.tup [.int 1, .int 4])) p4 (.tup [.int 2, .int 5])) p5 (.tup [.int 1, .int 2])) p6 (.tup [.int 2, .int 3]) = H1 at t6 hpl ⊢
  clear n2 n3 n4 n5 n6 t1 t2 t3 t4 t5
  have B1 := B.step (t6.newH (o := .lst [.ref p1, .ref p2, .ref p3, .ref p4, .ref p5, .ref p6]) hpl)
  have hne : pl ≠ bg := (B.step t6).ne hpl
  walk_at "rd"
  refine ⟨F1, hide bg _, bg, pl, _, rfl, B1.enter, SqL.of upd_same, hne, by simp, by simp, fun d v H2 hv B' => ?_⟩
  have B2 := B1.call B'
  obtain ⟨hh, hv⟩ : ∃ h, HurX F1 v h := by
    match d, hv with
    | 0, hv => cases hv; exact ⟨_, c1⟩
    | 1, hv => cases hv; exact ⟨_, c2⟩
    | 2, hv => cases hv; exact ⟨_, c3⟩
    | 3, hv => cases hv; exact ⟨_, c4⟩
    | 4, hv => cases hv; exact ⟨_, c5⟩
    | 5, hv => cases hv; exact ⟨_, c6⟩
  walk_at "rd"
  refine ⟨F1, hide bg H2, bg, 3, rfl, B2.enter, by decide, by decide, fun d1 H3 a0 a1 B' => ?_⟩
  have B3 := B2.call B'
  walk_at "rd"
  refine ⟨.of_le (by decide) (by decide) (by decide) (by decide), fun pr hpr => ?_⟩
  have B4 := B3.step ((Xt.refl B3.x.sub).new (o := .lst (rgV 0 2)) hpr)
  have sR := same_new (o := .lst (rgV 0 2)) (B3.x.sub.free hpr)
  walk_at "rd"
  refine ⟨_, hide bg _, bg, pr, [0, 1], rfl, B4.enter, SqL.of upd_same, by decide, fun p ms F5 H5 hperm B' hp => ?_⟩
  obtain ⟨f, rfl⟩ := lots_of_perm hperm
  have B5 := B4.call B'
  have hv5 : HurX F5 v hh := sm_mo (sR.trans B'.x.ff) hv
  walk_at "rd"
  refine ⟨F5, hide bg H5, bg, 2, rfl, B5.enter, by decide, by decide, fun d2 H6 b0 b1 B' => ?_⟩
  have B6 := B5.call B'
  walk_at "rd"
  refine ⟨szl (by simp), fun pt hpt => ?_⟩
  obtain ⟨hu, rfl, hhu, hok⟩ := hv5
  have B7 := B6.step ((Xt.refl B6.x.sub).new (o := .tup [.str "lists", .int (1 + d1), .ref p, .ref hu, .int (1 + d2)]) hpt)
  have sT := same_new (o := .tup [.str "lists", .int (1 + d1), .ref p, .ref hu, .int (1 + d2)]) (B6.x.sub.free hpt)
  refine q _ ⟨(1 + d1).toNat, f, hh.1, hh.2, 1 + d2⟩ _ _ ⟨pt, p, hu, .str "lists", rfl, ?_, sT _ _ hp, sT _ _ hhu, ⟨by show 1 ≤ (1 + d1).toNat; omega, by show (1 + d1).toNat ≤ 3; omega, hok, by show 1 + d2 = 1 ∨ 1 + d2 = 2; omega⟩⟩ B7
  rw [upd_same]
  show _ = some (HO.tup [_, .int (((1 + d1).toNat : Nat) : Int), _, _, _])
  rw [show (((1 + d1).toNat : Nat) : Int) = 1 + d1 by omega]
end
end Wp


set_option Elab.async false
set_option linter.all false
set_option maxRecDepth 100000
set_option maxHeartbeats 4000000
namespace Wp
open PySem PySem.Spec PyProof.Rows L2
local macro_rules | `(tactic| walk_at "rd") => `(tactic| repeat (first
  | ((with_reducible apply rd_var); · exact rfl)
  | with_reducible refine rd_c ?_ | with_reducible refine rd_op ?_ | with_reducible refine rd_un ?_ | with_reducible refine rd_test ?_ | with_reducible refine rd_B ?_ | with_reducible refine rd_bl ?_
  | with_reducible refine rd_and ?_ | with_reducible refine rd_or ?_ | with_reducible refine rd_not ?_ | with_reducible refine rd_andV ?_ | with_reducible refine rd_orV ?_ | with_reducible refine rd_notV ?_ | with_reducible refine rd_ifE ?_
  | with_reducible refine rd_seq ?_ | with_reducible refine rd_asg ?_ | ((with_reducible apply rd_name); · (simp only [List.set_cons_zero, List.set_cons_succ]; exact rfl)) | with_reducible refine rd_ret ?_ | with_reducible refine rd_drop ?_ | with_reducible refine rd_if ?_ | with_reducible refine rd_next ?_ | with_reducible refine rd_break ?_ | with_reducible refine rd_cont ?_
  | with_reducible refine rd_cl ?_ | with_reducible refine rd_cb ?_ | with_reducible refine rd_mk ?_ | with_reducible refine rd_cons ?_ | with_reducible refine rd_nil ?_ | with_reducible refine rd_tup ?_ | with_reducible refine rd_lst ?_ | with_reducible refine rd_at ?_ | with_reducible refine rd_gAt ?_
  | with_reducible refine rd_isN ?_ | with_reducible refine rd_notN ?_ | with_reducible refine rd_abs ?_ | with_reducible refine rd_max ?_ | with_reducible refine rd_int ?_ | with_reducible refine rd_intB ?_ | with_reducible refine rd_consG ?_ | with_reducible refine rd_nilG ?_ | with_reducible refine rd_ipI ?_ | ((with_reducible apply rd_aug); · exact rfl)
  | with_reducible refine rd_par ?_ | with_reducible refine rd_par3 ?_ | ((with_reducible apply rd_parQ); · (simp only [List.set_cons_zero, List.set_cons_succ]; exact rfl)) | ((with_reducible apply rd_par3Q); · (simp only [List.set_cons_zero, List.set_cons_succ]; exact rfl))
  | with_reducible refine rd_yes ?_ | with_reducible refine rd_chain ?_ | with_reducible refine rd_bm ?_ | with_reducible refine rd_bm0 ?_ | with_reducible refine rd_me ?_ | with_reducible refine rd_augS ?_ | with_reducible refine rd_subG ?_ | with_reducible refine rd_forR ?_ | with_reducible refine rd_sl ?_ | with_reducible refine rd_part ?_ | with_reducible refine rd_partQ ?_ | with_reducible refine rd_noPart ?_ | with_reducible refine rd_lstRg ?_ | with_reducible refine rd_forL ?_ | with_reducible refine rd_forE ?_ | with_reducible refine rd_forZ ?_ | with_reducible refine rd_lcL ?_ | with_reducible refine rd_lcR ?_ | with_reducible refine rd_lcE ?_ | with_reducible refine rd_lcZ ?_ | with_reducible refine rd_while ?_
  | with_reducible refine iteT ?_ | with_reducible refine iteF ?_ | with_reducible refine ifNotT ?_ | with_reducible refine ifNotF ?_ | with_reducible refine rd_I0 ?_ | with_reducible refine rd_U ?_ | with_reducible refine rd_add ?_ | with_reducible refine rd_eqI ?_ | with_reducible refine rd_neI ?_ | with_reducible refine rd_eqB ?_))
local macro_rules | `(tactic| walk_at "st") => `(tactic| (intro σ hσ; simp only [L2.start, List.map_cons, List.map_nil, List.length_cons, List.length_nil, List.reduceReplicate, List.replicate_zero, List.append_nil, Nat.reduceAdd, Nat.reduceSub, List.cons_append, List.nil_append] at hσ; subst hσ; try dsimp only [cxOf, Cx.nox, Cx.wish]))
local macro_rules | `(tactic| walk_at "wp") => `(tactic| (simp only [List.map_cons, List.map_nil, wipe, List.set_cons_zero, List.set_cons_succ]))
section
variable {P : Program} {w : World} {K : PySem.W.Frag} {mg : Str → Option Value} {base : Heap}
theorem all2_perm {α β : Type} {R : α → β → Prop} {as as' : List α} {bs : List β} (h : All2 R as bs) (p : as'.Perm as) : ∃ bs', bs'.Perm bs ∧ All2 R as' bs' := by
  induction p generalizing bs with
  | nil => exact ⟨_, List.Perm.refl _, h⟩
  | cons x _ ih =>
    cases h with
    | cons r t =>
      obtain ⟨bs', p', h'⟩ := ih t
      exact ⟨_ :: bs', List.Perm.cons _ p', .cons r h'⟩
  | swap x y l =>
    cases h with
    | cons r t =>
      cases t with
      | cons r2 t => exact ⟨_, List.Perm.swap _ _ _, .cons r2 (.cons r t)⟩
  | trans _ _ i1 i2 =>
    obtain ⟨bs1, p1, h1⟩ := i2 h
    obtain ⟨bs2, p2, h2⟩ := i1 h1
    exact ⟨bs2, p2.trans p1, h2⟩
/-! ### many, wanted -/
theorem cnt_filter (bs : List Bool) (i : Nat) (hi : i < 2) : (((bs.map hI).filter fun x => decide (x = (i : Int))).map fun x : Int => x).length = (sel (cnt bs) i : Int) := by
  rw [List.map_id']
  induction bs with
  | nil =>
    have h3 : i = 0 ∨ i = 1 := by omega
    rcases h3 with rfl | rfl <;> rfl
  | cons b bs ih =>
    have h3 : i = 0 ∨ i = 1 := by omega
    rw [List.map_cons, List.filter_cons]
    rcases h3 with rfl | rfl <;> cases b <;> simp [hI, cnt, sel] at ih ⊢ <;> omega
def sp_law_many (K : PySem.W.Frag) : Sp := fun vs H Q _ => ∃ (F : Hp) (v : V) (bs : List Bool), vs = [.int 2, v] ∧ Same F H ∧ ILst K F v (bs.map hI) ∧ bs.length ≤ 100 ∧ ∀ u F' H', Xt F H F' H' → LstX IntR F' u (I2 (cnt bs)) → Q u H'
theorem ok_law_many (T : Txt K mg) : Ok P w K mg base 1 (He.ga K "_law_many") (sp_law_many K) := by
  refine Ok.of T.fd_law_many Txt.b_law_many sc_law_many (fun vs H Q E h => ?_) fun cdv A outer s H vs Q E hr h => ?_
  · obtain ⟨_, _, _, rfl, _⟩ := h
    rfl
  obtain ⟨F, v, bs, rfl, s, hv, hl, q⟩ := h
  refine ⟨_, (pss_one (ps_ret (pe_lc rfl sc_law_many.nd (pi_range1 (by rfl) T.f_range (pa_cons (pv 0) pa_nil)) (blkOk_by (own := [("_law_hand", 2)]) (N := ["_law_hands", "_law_takers_here", "_law_hand", "_law_one_here"]) (sc := (defScope s_law_many)) (by decide +kernel)) (fun _ _ _ _ _ => (pg_name (i := 2) sc_law_many.nd rfl (Or.inr rfl))) (fun _ _ _ _ _ => pts_nil) (fun _ _ _ _ _ => (pe_callB (lenK (K := K) rfl) (by rfl) T.f_len PySem.boot_len (pa_cons (pe_lc rfl sc_law_many.nd (listK (K := K) rfl (pv 1)) (blkOk_by (own := [("_law_one_here", 3)]) (N := ["_law_hands", "_law_takers_here", "_law_hand", "_law_one_here"]) (sc := ({ kind := .function, names := [(PySem.Str.ofString ".0", .local), (PySem.Str.ofString "_law_hand", .cell), (PySem.Str.ofString "len", .globalImplicit), (PySem.Str.ofString "_law_takers_here", .cell)], isGenerator := false, isCoroutine := false, more := [] } : Scope)) (by decide +kernel)) (fun _ _ _ _ _ => (pg_name (i := 3) sc_law_many.nd rfl (Or.inl rfl))) (fun _ _ _ _ _ => (pts_one (pt_cmpR (eq2K (K := K) rfl hr) (pv 3) (pv 2) (nomark _)))) (fun _ _ _ _ _ => (pv 3))) pa_nil)))))), ?_⟩
  walk_at "st"
  walk_at "rd"
  refine lc_rngX (n := 2) IntR (fun _ => true) (fun i : Nat => sel (cnt bs) i) s (by decide) (fun i F1 H1 hi x Z Z0 hZ _ => ?_) fun D F1 H1 x1 hD => ?_
  · walk_at "wp"
    walk_at "rd"
    refine ⟨rfl, ?_⟩
    walk_at "rd"
    refine lc_list (R := IntR) IntR (fun y : Int => decide (y = (i : Int))) (fun y => y) (x.mono hv) x.sub (by rw [List.length_map]; omega) (fun j y F2 H2 vy hy x2 hvy Z' Z0' hZ' hZ0' => ?_) fun D2 F2 H2 x2 hD2 => ?_
    · obtain rfl : vy = .int y := hvy
      walk_at "wp"
      walk_at "rd"
      refine ⟨rfl, ?_⟩
      walk_at "rd"
      refine ifD (fun h => ?_) fun h => ?_
      · walk_at "rd"
        exact hZ' (by simp [h]) _ _ _ (Xt.refl x2.sub) rfl
      · exact hZ0' (by simp [h]) _ _ (Xt.refl x2.sub)
    · obtain ⟨_, e, hD2⟩ := ilst_to hD2
      cases e
      walk_at "rd"
      refine rd_lenL (x2.sub.seq hD2) ?_
      refine hZ rfl _ _ _ x2 ?_
      show V.int _ = V.int _
      rw [List.length_map, cnt_filter bs i hi]
  · walk_at "rd"
    rw [filtT] at hD
    exact q _ _ _ x1 hD
def sp_law_wanted (K : PySem.W.Frag) : Sp := fun vs H Q _ => ∃ (hu : Addr) (ht hb b : Int), vs = [.ref hu, .int b] ∧ SqT K H hu [.int ht, .int hb] ∧ HurOk ht hb ∧ 0 ≤ b ∧ b ≤ 1000 ∧ Q (.int (want ht hb b)) H
theorem ok_law_wanted (T : Txt K mg) : Ok P w K mg base 1 (He.ga K "_law_wanted") (sp_law_wanted K) := by
  refine Ok.of T.fd_law_wanted Txt.b_law_wanted sc_law_wanted (fun vs H Q E h => ?_) fun cdv A outer s H vs Q E hr h => ?_
  · obtain ⟨_, _, _, _, rfl, _⟩ := h
    rfl
  obtain ⟨hu, ht, hb, b, rfl, hh, ok, b0, b1, q⟩ := h
  have o1 := ok.b1
  have o5 := ok.b5
  refine ⟨_, (pss_one (ps_ret (pe_callB (call_maxN rfl) (by rfl) T.f_max (by decide +kernel) (pa_cons pe_int (pa_cons (pe_op op_sub pe_int (pe_op op_fdiv (pe_op op_sub pe_int (pe_op op_mul2 (pe_ix ix_seq (pv 0) pe_int (fun _ _ => rfl)) (pv 1))) (pe_ix ix_seq (pv 0) pe_int (fun _ _ => rfl)))) pa_nil))))), ?_⟩
  walk_at "st"
  walk_at "rd"
  refine rd_ixT hh rfl ?_
  walk_at "rd"
  refine rd_mul (n := b) (.inr ⟨by omega, by omega⟩) ?_
  walk_at "rd"
  refine rd_ixT hh rfl ?_
  refine rd_I ⟨by omega, by omega⟩ ?_
  walk_at "rd"
  rw [want_law ok]
  exact q
/-! ### takers -/
def partL (f : Bool) (W : Int) (v : Int × Int) : List Int := (lotsOf f).filter fun i => decide (W ≤ sel v i.toNat)
/-- whose the seat is, of those that take part -/
def bestL (st : Int) (v h : Int × Int) (P : List Int) (b : Int) : Int := P.foldl (fun b i => if sel v b.toNat * (1 + st * sel h i.toNat) < sel v i.toNat * (1 + st * sel h b.toNat) then i else b) b
theorem lotsOf_mem {f : Bool} {i : Int} (h : i ∈ lotsOf f) : i = 0 ∨ i = 1 := by
  cases f <;> simp [lotsOf] at h <;> omega
theorem part_mem {f : Bool} {W : Int} {v : Int × Int} {i : Int} (h : i ∈ partL f W v) : i = 0 ∨ i = 1 := lotsOf_mem (List.mem_filter.mp h).1
theorem pick_best {f : Bool} {st W v0 v1 h0 h1 : Int} {p : Int} {ps : List Int} (hst : st = 1 ∨ st = 2) (p0 : 0 ≤ v0) (p1 : 0 ≤ v1) (a0 : 0 ≤ h0) (a1 : 0 ≤ h1) (hp : partL f W (v0, v1) = p :: ps) :
    ∃ b, pickM f (mk st W v0 h0) (mk st W v1 h1) = some b ∧ bestL st (v0, v1) (h0, h1) (p :: ps) p = hI b := by
  by_cases w0 : W ≤ v0 <;> by_cases w1 : W ≤ v1
  · refine ⟨_, pick_both hst p0 p1 a0 a1 w0 w1, ?_⟩
    cases f with
    | true =>
      have : partL true W (v0, v1) = [0, 1] := by simp [partL, lotsOf, List.filter_cons, sel, w0, w1]
      rw [this] at hp
      obtain ⟨rfl, rfl⟩ := List.cons.inj hp
      unfold bestL bt
      rw [List.foldl_cons, List.foldl_cons, List.foldl_nil, if_neg (Int.lt_irrefl _)]
      show (if v0 * (1 + st * h1) < v1 * (1 + st * h0) then (1 : Int) else 0) = _
      by_cases c : v0 * (1 + st * h1) < v1 * (1 + st * h0)
      · rw [if_pos c, decide_eq_true c]
        rfl
      · rw [if_neg c, decide_eq_false c]
        simp [hI]
    | false =>
      have : partL false W (v0, v1) = [1, 0] := by simp [partL, lotsOf, List.filter_cons, sel, w0, w1]
      rw [this] at hp
      obtain ⟨rfl, rfl⟩ := List.cons.inj hp
      unfold bestL bt
      rw [List.foldl_cons, List.foldl_cons, List.foldl_nil, if_neg (Int.lt_irrefl _)]
      show (if v1 * (1 + st * h0) < v0 * (1 + st * h1) then (0 : Int) else 1) = _
      by_cases c : v1 * (1 + st * h0) < v0 * (1 + st * h1)
      · rw [if_pos c, decide_eq_false (p := v0 * (1 + st * h1) < v1 * (1 + st * h0)) (by omega), decide_eq_false (p := v0 * (1 + st * h1) = v1 * (1 + st * h0)) (by omega)]
        rfl
      · rw [if_neg c]
        by_cases c2 : v0 * (1 + st * h1) = v1 * (1 + st * h0)
        · rw [decide_eq_true c2]
          simp [hI]
        · rw [decide_eq_true (p := v0 * (1 + st * h1) < v1 * (1 + st * h0)) (by omega)]
          rfl
  · have : partL f W (v0, v1) = [0] := by cases f <;> simp [partL, lotsOf, List.filter_cons, sel, w0, w1]
    rw [this] at hp
    obtain ⟨rfl, rfl⟩ := List.cons.inj hp
    refine ⟨_, pick_one0 w0 (by omega), ?_⟩
    simp [bestL, hI]
  · have : partL f W (v0, v1) = [1] := by cases f <;> simp [partL, lotsOf, List.filter_cons, sel, w0, w1]
    rw [this] at hp
    obtain ⟨rfl, rfl⟩ := List.cons.inj hp
    refine ⟨_, pick_one1 (by omega) w1, ?_⟩
    simp [bestL, hI]
  · have : partL f W (v0, v1) = [] := by cases f <;> simp [partL, lotsOf, List.filter_cons, sel, w0, w1]
    rw [this] at hp
    cases hp
theorem part_none {f : Bool} {W v0 v1 : Int} (hp : partL f W (v0, v1) = []) : v0 < W ∧ v1 < W := by
  by_cases w0 : W ≤ v0 <;> by_cases w1 : W ≤ v1 <;> cases f <;> simp [partL, lotsOf, List.filter_cons, sel, w0, w1] at hp <;> omega
theorem at_seli {p : Int × Int} {l : List Int} {i : Int} (h : i = 0 ∨ i = 1) (hl : l.take 2 = [p.1, p.2]) : atI (l.map V.int) i = some (.int (sel p i.toNat)) := by
  rcases h with rfl | rfl
  · exact at_sel (n := 0) (by decide) hl
  · exact at_sel (n := 1) (by decide) hl
def sp_law_takers (K : PySem.W.Frag) : Sp := fun vs H Q _ => ∃ (F : Hp) (lv lh ll : V) (n : Nat) (f : Bool) (st W v0 v1 vi h0 h1 : Int), vs = [lv, .int W, lh, .int (n : Int), .int st, ll] ∧ Same F H ∧ ILst K F lv [v0, v1, vi] ∧ ILst K F lh [h0, h1] ∧ ILst K F ll (lotsOf f) ∧ n ≤ 5 ∧ (st = 1 ∨ st = 2) ∧ 0 ≤ v0 ∧ 0 ≤ v1 ∧ 0 ≤ h0 ∧ h0 ≤ 400 ∧ 0 ≤ h1 ∧ h1 ≤ 400 ∧
  ∀ u F' H', Xt F H F' H' → ILst K F' u ((runM f st W v0 v1 n h0 h1).map hI) → Q u H'
theorem ok_law_takers (T : Txt K mg) : Ok P w K mg base 1 (He.ga K "_law_takers") (sp_law_takers K) := by
  refine Ok.of T.fd_law_takers Txt.b_law_takers sc_law_takers (fun vs H Q E h => ?_) fun cdv A outer s H vs Q E hr h => ?_
  · obtain ⟨_, _, _, _, _, _, _, _, _, _, _, _, _, rfl, _⟩ := h
    rfl
  obtain ⟨F, v1', v2', v3', n, f, st, W, v0, v1, vi, i0, i1, rfl, s, hv, hh, hl, hn, hst, p0, p1, a0, a0', b0, b0', q⟩ := h
  obtain ⟨lv, rfl, hlv⟩ := ilst_to hv
  obtain ⟨lh, rfl, hlh⟩ := ilst_to hh
  obtain ⟨ll, rfl, hll⟩ := ilst_to hl
  refine ⟨_, (pss_cons (ps_par (i := 6) (j := 7) (by rfl) sc_law_takers.nd rfl rfl (by decide) rfl rfl (pa_cons (pe_lst pa_nil) (pa_cons (pe_callTy call_listN (by rfl) T.f_list (by decide +kernel) (pa_cons (pv 2) pa_nil)) pa_nil)) (by rfl))
      (pss_cons (ps_setLc (i := 9) rfl sc_law_takers.nd rfl rfl (sw_true rfl rfl rfl (by decide +kernel)) (pi_list (pv 5)) (blkOk_by (own := [("_law_hand", 8)]) (N := ["_law_votes", "_law_wanted_here", "_law_had", "_law_seats", "_law_step", "_law_lots", "_law_found", "_law_now", "_law_hand", "_law_part", "_law_seat", "_law_best", "_law_mine", "_law_its"]) (sc := (defScope s_law_takers)) (by decide +kernel)) (fun _ _ _ _ _ => (pg_name (i := 8) sc_law_takers.nd rfl (Or.inl rfl))) (fun _ _ _ _ _ => (pts_one (pt_cmpR op_ge (pe_ix (ixK (K := K) rfl) (pv 0) (pv 8) (fun _ _ => rfl)) (pv 1) (nomark _)))) (fun _ _ _ _ _ => (pv 8)))
      (pss_cons (ps_for PassesOwn.never rfl (pi_range1 (by rfl) T.f_range (pa_cons (pe_op op_mul2 (pv 3) (pe_callTy call_intN (by rfl) T.f_int (by decide +kernel) (pa_cons (pe_cmpR (op_ne2 hr) (pv 9) (pe_lst pa_nil) (nomark _)) pa_nil))) pa_nil)) (pg_name (i := 10) sc_law_takers.nd rfl (Or.inl rfl)) (pss_cons (ps_set (i := 11) sc_law_takers.nd rfl (Or.inl rfl) (pe_ix ix_seq (pv 9) pe_int (fun _ _ => rfl)))
      (pss_cons (ps_for PassesOwn.never rfl (pi_list (pv 9)) (pg_name (i := 8) sc_law_takers.nd rfl (Or.inl rfl)) (pss_cons (ps_par (i := 12) (j := 13) (by rfl) sc_law_takers.nd rfl rfl (by decide) rfl rfl (pa_cons (pe_op op_add2 pe_int (pe_op op_mul2 (pv 4) (pe_ix ix_seq (pv 7) (pv 11) (fun _ _ => rfl)))) (pa_cons (pe_op op_add2 pe_int (pe_op op_mul2 (pv 4) (pe_ix ix_seq (pv 7) (pv 8) (fun _ _ => rfl)))) pa_nil)) (by rfl))
      (pss_one (ps_if (pt_cmpR op_gt (pe_op op_mul2 (pe_ix ix_seq (pv 0) (pv 8) (fun _ _ => rfl)) (pv 12)) (pe_op op_mul2 (pe_ix ix_seq (pv 0) (pv 11) (fun _ _ => rfl)) (pv 13)) (nomark _)) (pss_one (ps_set (i := 11) sc_law_takers.nd rfl (Or.inl rfl) (pv 8))) pss_nil))))
      (pss_cons (ps_expr (pe_bm PySem.F.plainAttrs_list PySem.F.slot_list_append PySem.F.type_list_append mt_append (pv 6) (pa_cons (pv 11) pa_nil)))
      (pss_one (ps_augS (pv 7) (pv 11) get_list pe_int ip_add set_list))))))
      (pss_one (ps_ret (pv 6)))))), ?_⟩
  walk_at "st"
  walk_at "rd"
  refine ⟨szl (by simp), fun pf hpf => ?_⟩
  have of : Own F H F (upd H pf (.lst [])) pf [] := Own.mk' (Xt.refl s) hpf
  walk_at "rd"
  refine rd_listL (of.x.sl hlh) fun pn hpn => ?_
  obtain ⟨of, on, hne⟩ := of.new2 (a2 := [.int i0, .int i1]) hpn
  walk_at "rd"
  have hll2 : (lotsOf f).length = 2 := by cases f <;> rfl
  refine lc_list (R := IntR) IntR (fun i : Int => decide (W ≤ sel (v0, v1) i.toNat)) (fun i => i) hl of.x.sub (by omega) (fun j i F1 H1 vy hy x hvy Z Z0 hZ hZ0 => ?_) fun D F1 H1 x1 hD => ?_
  · obtain rfl : vy = .int i := hvy
    have hi := lotsOf_mem (List.mem_of_getElem? hy)
    walk_at "wp"
    walk_at "rd"
    refine ⟨rfl, ?_⟩
    walk_at "rd"
    refine rd_ixL (x.sl hlv) (at_seli (p := (v0, v1)) hi rfl) ?_
    walk_at "rd"
    refine ifD (fun h => ?_) fun h => ?_
    · walk_at "rd"
      exact hZ (by simp [h]) _ _ _ (Xt.refl x.sub) rfl
    · exact hZ0 (by simp; omega) _ _ (Xt.refl x.sub)
  rw [List.map_id'] at hD
  have hD : ILst K F1 (.ref D) (partL f W (v0, v1)) := hD
  have hpm : ∀ i ∈ partL f W (v0, v1), i = 0 ∨ i = 1 := fun i hi => part_mem hi
  have hpl : (partL f W (v0, v1)).length ≤ 2 := by
    unfold partL
    exact Nat.le_trans (List.length_filter_le _ _) (by omega)
  have of := of.step x1
  have on := on.step x1
  walk_at "rd"
  refine ⟨szl (by simp), fun p0' hp0' => ?_⟩
  have x2 := (Xt.refl x1.sub).new (o := .lst []) hp0'
  refine rd_neD dat_int.lst (by decide) (x := partL f W (v0, v1)) (y := []) (sm_mo x2.fH hD) ⟨p0', [], rfl, SqL.of upd_same, .nil⟩ ?_
  have of := of.step x2
  have on := on.step x2
  have hD := x2.mono hD
  have hlv := (x1.ff.trans x2.ff).seq hlv
  have x02 := of.x
  generalize upd F1 p0' (.lst []) = F2 at x2 of on hD hlv x02
  generalize upd H1 p0' (.lst []) = H2 at x2 of on x02 ⊢
  clear x2 x1
  walk_at "rd"
  have hmul : ((n : Int) * if (!decide (partL f W (v0, v1) = [])) = true then 1 else 0) = ((if partL f W (v0, v1) = [] then 0 else n : Nat) : Int) := by
    by_cases h : partL f W (v0, v1) = [] <;> simp [h]
  refine rd_mul (.inr ⟨by split <;> decide, by split <;> decide⟩) ?_
  rw [hmul]
  walk_at "rd"
  have hnn : (if partL f W (v0, v1) = [] then 0 else n) ≤ 5 := by split <;> omega
  refine fo_rng (fun i σ H3 => ∃ (F3 : Hp) (bs : List Bool) (h0 h1 : Int) (y8 y10 y11 y12 y13 : Option V), σ = [some (.ref lv), some (.int W), some (.ref lh), some (.int (n : Int)), some (.int st), some (.ref ll), some (.ref pf), some (.ref pn), y8, some (.ref D), y10, y11, y12, y13] ∧ Same F2 F3 ∧ Own F H F3 H3 pf (bs.map fun b => V.int (hI b)) ∧ Own F H F3 H3 pn [.int h0, .int h1] ∧
      bs.length = i ∧ (i ≤ n → runM f st W v0 v1 n i0 i1 = bs ++ runM f st W v0 v1 (n - i) h0 h1) ∧ 0 ≤ h0 ∧ 0 ≤ h1 ∧ h0 + h1 = i0 + i1 + i) (by omega)
    ⟨F2, [], i0, i1, _, _, _, _, _, rfl, Same.refl _, of, on, rfl, fun _ => rfl, a0, b0, by simp⟩ ?_ ?_
  · rintro i σ H3 hi ⟨F3, bs, h0, h1, y8, y10, y11, y12, y13, rfl, s23, of, on, hbl, hrun, g0, g1, hsum⟩
    have hpne : partL f W (v0, v1) ≠ [] := fun e => by
      rw [if_pos e] at hi
      exact absurd hi (Nat.not_lt_zero _)
    rw [if_neg hpne] at hi hnn
    obtain ⟨pp, ps, hpp⟩ := List.exists_cons_of_ne_nil hpne
    obtain ⟨b, hpick, hbest⟩ := pick_best hst p0 p1 g0 g1 hpp
    obtain ⟨pd, pvs, epd, hpd, hpda⟩ := id hD
    cases epd
    have epv := all2_int hpda
    subst epv
    walk_at "rd"
    refine rd_ixL (v := .int pp) ((s23.trans of.x.sub).seq hpd) (show atI _ ((0 : Nat) : Int) = _ from atI_get2 (by rw [hpp]; rfl)) ?_
    walk_at "rd"
    have hppm := hpm pp (by rw [hpp]; exact List.mem_cons_self)
    have hsel : ∀ k : Nat, 0 ≤ sel (h0, h1) k ∧ sel (h0, h1) k ≤ 900 := fun k => by
      unfold sel
      split <;> (constructor <;> simp only <;> omega)
    refine fo_list (R := IntR) (F := F3) (fun j σ F4 H4 => ∃ (bb : Int) (y8 y12 y13 : Option V), σ = [some (.ref lv), some (.int W), some (.ref lh), some (.int (n : Int)), some (.int st), some (.ref ll), some (.ref pf), some (.ref pn), y8, some (.ref D), some (.int (i : Int)), some (.int bb), y12, y13] ∧ F4 = F3 ∧ H4 = H3 ∧ (bb = 0 ∨ bb = 1) ∧ bb = bestL st (v0, v1) (h0, h1) ((partL f W (v0, v1)).take j) pp) (sm_mo s23 hD)
      ⟨pp, _, _, _, rfl, rfl, rfl, hppm, rfl⟩ (fun j σ F4 H4 ⟨_, _, _, _, _, e, e', _⟩ => by subst e e'; exact ⟨Same.refl _, of.x.sub⟩) ?_ ?_
    · rintro j y vy σ F4 H4 hy hvy ⟨bb, y8, y12, y13, rfl, rfl, rfl, hb01, hbb⟩
      obtain rfl : vy = .int y := hvy
      have hy01 := hpm y (List.mem_of_getElem? hy)
      walk_at "rd"
      refine rd_ixL (SqL.of on.e) (at_seli (p := (h0, h1)) (l := [h0, h1]) hb01 rfl) ?_
      refine rd_mul (.inl ⟨by omega, by omega⟩) ?_
      walk_at "rd"
      refine rd_ixL (SqL.of on.e) (at_seli (p := (h0, h1)) (l := [h0, h1]) hy01 rfl) ?_
      refine rd_mul (.inl ⟨by omega, by omega⟩) ?_
      walk_at "rd"
      refine rd_ixL ((s23.trans of.x.sub).seq hlv) (at_seli (p := (v0, v1)) hy01 rfl) ?_
      walk_at "rd"
      have bm := hsel bb.toNat
      have bi := hsel y.toNat
      refine rd_mul (.inr ⟨by rcases hst with rfl | rfl <;> omega, by rcases hst with rfl | rfl <;> omega⟩) ?_
      walk_at "rd"
      refine rd_ixL ((s23.trans of.x.sub).seq hlv) (at_seli (p := (v0, v1)) hb01 rfl) ?_
      walk_at "rd"
      refine rd_mul (.inr ⟨by rcases hst with rfl | rfl <;> omega, by rcases hst with rfl | rfl <;> omega⟩) ?_
      walk_at "rd"
      have est : bestL st (v0, v1) (h0, h1) ((partL f W (v0, v1)).take (j + 1)) pp = if sel (v0, v1) bb.toNat * (1 + st * sel (h0, h1) y.toNat) < sel (v0, v1) y.toNat * (1 + st * sel (h0, h1) bb.toNat) then y else bb := by
        rw [take_snoc hy]
        unfold bestL at hbb ⊢
        rw [List.foldl_append, ← hbb]
        rfl
      refine ifD (fun c => ?_) fun c => ?_
      · walk_at "rd"
        exact ⟨_, y, _, _, _, rfl, rfl, rfl, hy01, by rw [est, if_pos c]⟩
      · walk_at "rd"
        exact ⟨_, bb, _, _, _, rfl, rfl, rfl, hb01, by rw [est, if_neg c]⟩
    · rintro σ F4 H4 ⟨bb, y8, y12, y13, rfl, rfl, rfl, hb01, hbb⟩
      rw [List.take_length] at hbb
      rw [hpp] at hbb
      obtain rfl : bb = hI b := hbb.trans hbest
      walk_at "rd"
      refine ⟨ty_list (SqL.of of.e), ?_⟩
      walk_at "rd"
      refine rd_append of.e (by rw [List.length_map]; omega) ?_
      have em : (bs.map fun b => V.int (hI b)) ++ [V.int (hI b)] = (bs ++ [b]).map fun b => V.int (hI b) := by rw [List.map_append]; rfl
      rw [em]
      have on := on.other (o := .lst ((bs ++ [b]).map fun b => V.int (hI b))) of hne.symm
      have of := of.set (acc' := (bs ++ [b]).map fun b => V.int (hI b))
      walk_at "rd"
      have hrun' : i + 1 ≤ n → runM f st W v0 v1 n i0 i1 = (bs ++ [b]) ++ runM f st W v0 v1 (n - (i + 1)) (h0 + (1 - hI b)) (h1 + hI b) := fun hle => by
        rw [hrun (by omega), show n - i = (n - (i + 1)) + 1 by omega, runM, hpick, List.append_assoc]
        rfl
      cases b with
      | false =>
        refine rd_ixLg (SqL.of on.e) rfl ?_
        walk_at "rd"
        refine rd_setL on.e rfl ?_
        refine ⟨_, bs ++ [false], h0 + 1, h1, _, _, _, _, _, rfl, s23, of.other on hne, on.set, by rw [List.length_append, hbl]; rfl, fun hle => ?_, by omega, g1, by omega⟩
        rw [hrun' hle]
        simp [hI]
      | true =>
        refine rd_ixLg (SqL.of on.e) rfl ?_
        walk_at "rd"
        refine rd_setL on.e rfl ?_
        refine ⟨_, bs ++ [true], h0, h1 + 1, _, _, _, _, _, rfl, s23, of.other on hne, on.set, by rw [List.length_append, hbl]; rfl, fun hle => ?_, g0, by omega, by omega⟩
        rw [hrun' hle]
        simp [hI]
  · rintro σ H3 ⟨F3, bs, h0, h1, y8, y10, y11, y12, y13, rfl, s23, of, on, hbl, hrun, g0, g1, hsum⟩
    walk_at "rd"
    have hfin : runM f st W v0 v1 n i0 i1 = bs := by
      by_cases h : partL f W (v0, v1) = []
      · rw [if_pos h] at hbl
        rw [runM_none (part_none h), List.length_eq_zero_iff.mp hbl]
      · rw [if_neg h] at hrun
        rw [hrun (Nat.le_refl _), Nat.sub_self]
        show bs ++ [] = bs
        rw [List.append_nil]
    rw [hfin] at q
    refine q _ _ _ of.fin (ilst_of ?_)
    rw [List.map_map]
    exact SqL.of upd_same
/-! ### a sheet -/
def sp_law_sheet (K : PySem.W.Frag) : Sp := fun vs H Q _ => ∃ (F : Hp) (v : V) (n : Vt), vs = [v] ∧ Same F H ∧ ILst K F v n.l ∧ VtS n ∧ ∀ u F' H', Xt F H F' H' → SheetX F' u n → Q u H'
theorem ok_law_sheet (T : Txt K mg) : Ok P w K mg base 1 (He.ga K "_law_sheet") (sp_law_sheet K) := by
  refine Ok.of T.fd_law_sheet Txt.b_law_sheet sc_law_sheet (fun vs H Q E h => ?_) fun cdv A outer s H vs Q E hr h => ?_
  · obtain ⟨_, _, _, rfl, _⟩ := h
    rfl
  obtain ⟨F, v, n, rfl, s, hv, hn, q⟩ := h
  obtain ⟨lv, rfl, hlv⟩ := ilst_to hv
  refine ⟨_, (pss_cons (ps_set (i := 1) sc_law_sheet.nd rfl (Or.inl rfl) (pe_op op_sub (pe_callB call_lenN (by rfl) T.f_len PySem.boot_len (pa_cons (pv 0) pa_nil)) pe_int))
      (pss_cons (ps_set (i := 2) sc_law_sheet.nd rfl (Or.inl rfl) (pe_op op_add2 (pe_lc rfl sc_law_sheet.nd (pi_range1 (by rfl) T.f_range (pa_cons (pv 1) pa_nil)) (blkOk_by (own := [("_law_hand", 3)]) (N := ["_law_votes", "_law_hands", "_law_found", "_law_hand", "_law_row"]) (sc := (defScope s_law_sheet)) (by decide +kernel)) (fun _ _ _ _ _ => (pg_name (i := 3) sc_law_sheet.nd rfl (Or.inl rfl))) (fun _ _ _ _ _ => pts_nil) (fun _ _ _ _ _ => (pe_tup (pa_cons (pe_tup (pa_cons (pe_op op_shl pe_int (pv 3)) pa_nil)) (pa_cons (pe_ix (ixK (K := K) rfl) (pv 0) (pv 3) (fun _ _ => rfl)) pa_nil))))) (pe_lst (pa_cons (pe_tup (pa_cons (pe_tup pa_nil) (pa_cons (pe_ix ix_seq (pv 0) (pv 1) (fun _ _ => rfl)) pa_nil))) pa_nil))))
      (pss_one (ps_ret (pe_callB (cr_sortedRowsL hr) (by rfl) T.f_sorted (by decide +kernel) (pa_cons (pe_lc rfl sc_law_sheet.nd (pi_list (pv 2)) (blkOk_by (own := [("_law_row", 4)]) (N := ["_law_votes", "_law_hands", "_law_found", "_law_hand", "_law_row"]) (sc := (defScope s_law_sheet)) (by decide +kernel)) (fun _ _ _ _ _ => (pg_name (i := 4) sc_law_sheet.nd rfl (Or.inl rfl))) (fun _ _ _ _ _ => (pts_one (pt_cmpR op_gt (pe_ix (ixK (K := K) rfl) (pv 4) pe_int (fun _ _ => rfl)) pe_int (nomark _)))) (fun _ _ _ _ _ => (pv 4))) pa_nil)))))), ?_⟩
  walk_at "st"
  walk_at "rd"
  refine rd_lenL (s.seq hlv) ?_
  walk_at "rd"
  refine lc_rngX (n := 2) RowX (fun _ => true) (fun i : Nat => (([((1 : Int) * 2 ^ (i : Int).toNat)], sel (n.a, n.b) i) : Row)) s (by decide) (fun i F1 H1 hi x Z Z0 hZ _ => ?_) fun D F1 H1 x1 hD => ?_
  · walk_at "wp"
    walk_at "rd"
    refine ⟨rfl, ?_⟩
    walk_at "rd"
    refine rd_I ⟨by omega, by omega, by decide⟩ ?_
    walk_at "rd"
    refine ⟨szl (by simp), fun p hp => ?_⟩
    have x2 := (Xt.refl x.sub).new (o := .tup [.int (1 * 2 ^ (i : Int).toNat)]) hp
    walk_at "rd"
    refine rd_ixL ((x.trans x2).sl hlv) (at_sel (p := (n.a, n.b)) hi rfl) ?_
    walk_at "rd"
    refine ⟨szl (by simp), fun p2 hp2 => ?_⟩
    refine hZ rfl _ _ _ (x2.new hp2) ⟨p2, p, rfl, upd_same, ?_⟩
    exact (same_new (x2.sub.free hp2)) _ _ upd_same
  · rw [filtT] at hD
    obtain ⟨_, vs, e, hDe, hDa⟩ := hD
    cases e
    have hDl := hDa.length
    walk_at "rd"
    refine ⟨szl (by simp), fun p hp => ?_⟩
    have x2 := x1.new (o := .tup []) hp
    walk_at "rd"
    refine rd_ixL (v := .int n.i) (x2.sl hlv) rfl ?_
    walk_at "rd"
    refine ⟨szl (by simp), fun p2 hp2 => ?_⟩
    have x3 := x2.new (o := .tup [.ref p, .int n.i]) hp2
    have r3 : RowX (upd (upd F1 p (.tup [])) p2 (.tup [.ref p, .int n.i])) (.ref p2) ([], n.i) := ⟨p2, p, rfl, upd_same, (same_new (x2.sub.free hp2)) _ _ upd_same⟩
    have sD : Same F1 (upd (upd F1 p (.tup [])) p2 (.tup [.ref p, .int n.i])) := (same_new (x1.sub.free hp)).trans (same_new (x2.sub.free hp2))
    walk_at "rd"
    refine ⟨szl (by simp), fun p3 hp3 => ?_⟩
    have x4 := x3.newH (o := .lst [.ref p2]) hp3
    refine rd_cat ((same_new hp3) _ _ (x3.sub _ _ (sD _ _ hDe))) upd_same (szl (by rw [hDl]; simp)) fun p4 hp4 => ?_
    have x5 := x4.new (o := .lst (vs ++ [.ref p2])) hp4
    have s4 : Same (upd (upd F1 p (.tup [])) p2 (.tup [.ref p, .int n.i])) _ := same_new (o := .lst (vs ++ [.ref p2])) (x4.sub.free hp4)
    have hall : LstX RowX _ (.ref p4) ((List.range 2).map (fun i : Nat => (([((1 : Int) * 2 ^ (i : Int).toNat)], sel (n.a, n.b) i) : Row)) ++ [([], n.i)]) :=
      ⟨p4, _, rfl, (upd_same : upd _ p4 _ p4 = _), (hDa.imp fun _ _ r => sm_mo (sD.trans s4) r).snoc (sm_mo s4 r3)⟩
    rw [show (List.range 2).map (fun i : Nat => (([((1 : Int) * 2 ^ (i : Int).toNat)], sel (n.a, n.b) i) : Row)) ++ [([], n.i)] = [([1], n.a), ([2], n.b), ([], n.i)] from rfl] at hall
    generalize upd (upd (upd F1 p (.tup [])) p2 (.tup [.ref p, .int n.i])) p4 (.lst (vs ++ [.ref p2])) = F5 at x5 hall
    walk_at "rd"
    refine lc_listX (R := RowX) (K := K) RowX (fun r : Row => decide (r.2 > 0)) (fun r => r) hall.lst x5.sub (by simp) (fun i y F6 H6 v hy x hv Z Z0 hZ hZ0 => ?_) fun D2 F6 H6 x6 hD2 => ?_
    · obtain ⟨t, q1, rfl, ht, hq1⟩ := id hv
      walk_at "wp"
      walk_at "rd"
      refine ⟨rfl, ?_⟩
      walk_at "rd"
      refine rd_ixT (SqT.of (x.sub _ _ ht)) rfl ?_
      walk_at "rd"
      refine ifD (fun h => ?_) fun h => ?_
      · walk_at "rd"
        exact hZ (by simp [h]) _ _ _ (Xt.refl x.sub) hv
      · exact hZ0 (by simp; omega) _ _ (Xt.refl x.sub)
    · rw [List.map_id'] at hD2
      obtain ⟨_, ws, e, hws, hwa⟩ := hD2
      cases e
      walk_at "rd"
      have hmem : ∀ x ∈ ws, ∃ r, r ∈ ([([1], n.a), ([2], n.b), ([], n.i)] : List Row).filter (fun r : Row => decide (r.2 > 0)) ∧ RowX F6 x r := fun x hx => by
        obtain ⟨i, hi⟩ := List.mem_iff_getElem?.mp hx
        obtain ⟨r, hr, h⟩ := hwa.getL hi
        exact ⟨r, List.mem_of_getElem? hr, h⟩
      refine ⟨D2, ws, rfl, SqL.of (x6.sub _ _ hws), fun x hx => ?_, fun p7 ys hp7 hperm => ?_⟩
      · obtain ⟨r, _, t, q1, rfl, ht, hq1⟩ := hmem x hx
        exact ⟨t, q1, r.1, r.2, rfl, x6.sub _ _ ht, x6.sub _ _ hq1⟩
      · have x7 := (x5.trans x6).new (o := .lst ys) hp7
        have sys := same_new (o := .lst ys) (x6.sub.free hp7)
        obtain ⟨rs, hrs, hra⟩ := all2_perm hwa hperm
        have n0 := hn.a0
        have n1 := hn.b0
        have n2 := hn.i0
        have hfull : ∀ r ∈ ([([1], n.a), ([2], n.b), ([], n.i)] : List Row), (r.1 = [1] ∨ r.1 = [2] ∨ r.1 = []) ∧ 0 ≤ r.2 := fun r hr => by
          simp only [List.mem_cons, List.not_mem_nil, or_false] at hr
          rcases hr with rfl | rfl | rfl
          · exact ⟨.inl rfl, n0⟩
          · exact ⟨.inr (.inl rfl), n1⟩
          · exact ⟨.inr (.inr rfl), n2⟩
        have hmr : ∀ r ∈ rs, (r.1 = [1] ∨ r.1 = [2] ∨ r.1 = []) ∧ 0 ≤ r.2 := fun r hr => hfull r (List.mem_filter.mp (hrs.mem_iff.mp hr)).1
        have ef : ([([1], n.a), ([2], n.b), ([], n.i)] : List Row).filter (fun r : Row => decide (r.2 > 0)) = ([([1], n.a), ([2], n.b), ([], n.i)] : List Row).filter fun r => !decide (r.2 = 0) := by
          refine List.filter_congr fun r hr => ?_
          have := (hfull r hr).2
          by_cases h : r.2 = 0
          · simp [h]
          · have : r.2 > 0 := by omega
            simp [h, this]
        have en : ∀ sl : List Int, num sl rs = num sl [([1], n.a), ([2], n.b), ([], n.i)] := fun sl => by
          rw [num_perm hrs, ef, num_filter]
        have hlen3 : rs.length ≤ 3 := by
          rw [hrs.length_eq]
          exact List.length_filter_le _ _
        have e1 : num [1] rs = n.a := by rw [en]; simp [num]
        have e2 : num [2] rs = n.b := by rw [en]; simp [num]
        have e3 : num [] rs = n.i := by rw [en]; simp [num]
        refine q _ _ _ x7 ⟨p7, ys, rs, rfl, upd_same, hra.imp fun _ _ r => sm_mo sys r, ⟨fun r hr => (hmr r hr).1, fun r hr => (hmr r hr).2, by omega, ?_⟩, by omega, ?_⟩
        · rw [tot_split fun r hr => (hmr r hr).1, e1, e2, e3]
          have := hn.m
          unfold Vt.sum at this
          omega
        · unfold vtOf
          rw [e1, e2, e3]
end
end Wp


set_option Elab.async false
set_option linter.all false
set_option maxRecDepth 100000
set_option maxHeartbeats 4000000
namespace Wp
open PySem PySem.Spec PyProof.Rows L2
local macro_rules | `(tactic| walk_at "rd") => `(tactic| repeat (first
  | ((with_reducible apply rd_var); · exact rfl)
  | with_reducible refine rd_c ?_ | with_reducible refine rd_op ?_ | with_reducible refine rd_un ?_ | with_reducible refine rd_test ?_ | with_reducible refine rd_B ?_ | with_reducible refine rd_bl ?_
  | with_reducible refine rd_and ?_ | with_reducible refine rd_or ?_ | with_reducible refine rd_not ?_ | with_reducible refine rd_andV ?_ | with_reducible refine rd_orV ?_ | with_reducible refine rd_notV ?_ | with_reducible refine rd_ifE ?_
  | with_reducible refine rd_seq ?_ | with_reducible refine rd_asg ?_ | ((with_reducible apply rd_name); · (simp only [List.set_cons_zero, List.set_cons_succ]; exact rfl)) | with_reducible refine rd_ret ?_ | with_reducible refine rd_drop ?_ | with_reducible refine rd_if ?_ | with_reducible refine rd_next ?_ | with_reducible refine rd_break ?_ | with_reducible refine rd_cont ?_
  | with_reducible refine rd_cl ?_ | with_reducible refine rd_cb ?_ | with_reducible refine rd_mk ?_ | with_reducible refine rd_cons ?_ | with_reducible refine rd_nil ?_ | with_reducible refine rd_tup ?_ | with_reducible refine rd_lst ?_ | with_reducible refine rd_at ?_ | with_reducible refine rd_gAt ?_
  | with_reducible refine rd_isN ?_ | with_reducible refine rd_notN ?_ | with_reducible refine rd_abs ?_ | with_reducible refine rd_max ?_ | with_reducible refine rd_int ?_ | with_reducible refine rd_intB ?_ | with_reducible refine rd_consG ?_ | with_reducible refine rd_nilG ?_ | with_reducible refine rd_ipI ?_ | ((with_reducible apply rd_aug); · exact rfl)
  | with_reducible refine rd_par ?_ | with_reducible refine rd_par3 ?_ | ((with_reducible apply rd_parQ); · (simp only [List.set_cons_zero, List.set_cons_succ]; exact rfl)) | ((with_reducible apply rd_par3Q); · (simp only [List.set_cons_zero, List.set_cons_succ]; exact rfl))
  | with_reducible refine rd_yes ?_ | with_reducible refine rd_chain ?_ | with_reducible refine rd_bm ?_ | with_reducible refine rd_bm0 ?_ | with_reducible refine rd_me ?_ | with_reducible refine rd_augS ?_ | with_reducible refine rd_subG ?_ | with_reducible refine rd_forR ?_ | with_reducible refine rd_sl ?_ | with_reducible refine rd_part ?_ | with_reducible refine rd_partQ ?_ | with_reducible refine rd_noPart ?_ | with_reducible refine rd_lstRg ?_ | with_reducible refine rd_forL ?_ | with_reducible refine rd_forE ?_ | with_reducible refine rd_forZ ?_ | with_reducible refine rd_lcL ?_ | with_reducible refine rd_lcR ?_ | with_reducible refine rd_lcE ?_ | with_reducible refine rd_lcZ ?_ | with_reducible refine rd_while ?_
  | with_reducible refine iteT ?_ | with_reducible refine iteF ?_ | with_reducible refine ifNotT ?_ | with_reducible refine ifNotF ?_ | with_reducible refine rd_I0 ?_ | with_reducible refine rd_U ?_ | with_reducible refine rd_add ?_ | with_reducible refine rd_eqI ?_ | with_reducible refine rd_neI ?_ | with_reducible refine rd_eqB ?_))
local macro_rules | `(tactic| walk_at "st") => `(tactic| (intro σ hσ; simp only [L2.start, List.map_cons, List.map_nil, List.length_cons, List.length_nil, List.reduceReplicate, List.replicate_zero, List.append_nil, Nat.reduceAdd, Nat.reduceSub, List.cons_append, List.nil_append] at hσ; subst hσ; try dsimp only [cxOf, Cx.nox, Cx.wish]))
local macro_rules | `(tactic| walk_at "wp") => `(tactic| (simp only [List.map_cons, List.map_nil, wipe, List.set_cons_zero, List.set_cons_succ]))
def partsL (m : Nat) : Nat → List (List Int)
  | 0 => [[(m : Int)]]
  | p + 1 => (List.range (m + 1)).flatMap fun i => (partsL (m - i) p).map fun r => (i : Int) :: r
theorem partsL_len : ∀ (p m : Nat), (partsL m p).length ≤ (m + 1) ^ p
  | 0, m => by simp [partsL]
  | p + 1, m => by
    rw [partsL, List.length_flatMap]
    have h : ∀ (xs : List Nat), (∀ i ∈ xs, i ≤ m) → ((xs.map fun i => ((partsL (m - i) p).map fun r => (i : Int) :: r).length)).sum ≤ xs.length * (m + 1) ^ p := by
      intro xs
      induction xs with
      | nil => intro _; simp
      | cons x xs ih =>
        intro hx
        rw [List.map_cons, List.sum_cons, List.length_cons, List.length_map, Nat.succ_mul]
        have h1 := ih fun i hi => hx i (List.mem_cons_of_mem _ hi)
        have h2 := partsL_len p (m - x)
        have h3 : (m - x + 1) ^ p ≤ (m + 1) ^ p := Nat.pow_le_pow_left (by omega) p
        omega
    refine Nat.le_trans (h _ fun i hi => by have := List.mem_range.mp hi; omega) ?_
    rw [List.length_range, Nat.pow_succ, Nat.mul_comm]
    exact Nat.le_refl _
theorem partsL_mem : ∀ (p m : Nat) (r : List Int), r ∈ partsL m p ↔ r.length = p + 1 ∧ (∀ x ∈ r, 0 ≤ x) ∧ r.sum = m
  | 0, m, r => by
    unfold partsL
    constructor
    · intro h
      rw [List.mem_singleton.mp h]
      simp
    · rintro ⟨h1, h2, h3⟩
      match r, h1 with
      | [x], _ =>
        simp at h3
        rw [List.mem_singleton, h3]
  | p + 1, m, r => by
    rw [partsL, List.mem_flatMap]
    constructor
    · rintro ⟨i, hi, h⟩
      obtain ⟨r', hr', rfl⟩ := List.mem_map.mp h
      obtain ⟨h1, h2, h3⟩ := (partsL_mem p (m - i) r').mp hr'
      have := List.mem_range.mp hi
      refine ⟨by rw [List.length_cons, h1], fun x hx => ?_, by rw [List.sum_cons, h3]; omega⟩
      rcases List.mem_cons.mp hx with rfl | hx
      · omega
      · exact h2 x hx
    · rintro ⟨h1, h2, h3⟩
      match r, h1 with
      | x :: r', h1 =>
        have hx := h2 x List.mem_cons_self
        have hs : 0 ≤ r'.sum := by
          have : ∀ ys : List Int, (∀ y ∈ ys, 0 ≤ y) → 0 ≤ ys.sum := by
            intro ys
            induction ys with
            | nil => intro _; simp
            | cons y ys ih =>
              intro h
              rw [List.sum_cons]
              have := h y List.mem_cons_self
              have := ih fun z hz => h z (List.mem_cons_of_mem _ hz)
              omega
          exact this r' fun y hy => h2 y (List.mem_cons_of_mem _ hy)
        rw [List.sum_cons] at h3
        obtain ⟨i, rfl⟩ := Int.eq_ofNat_of_zero_le hx
        refine ⟨i, List.mem_range.mpr (by omega), List.mem_map.mpr ⟨r', (partsL_mem p (m - i) r').mpr ⟨by simpa using h1, fun y hy => h2 y (List.mem_cons_of_mem _ hy), by omega⟩, rfl⟩⟩
theorem szL {n : Nat} (h : n ≤ 1000000) : n ≤ sizeLine := by
  rw [sizeLine_eq]
  omega
section
variable {P : Program} {w : World} {K : PySem.W.Frag} {mg : Str → Option Value} {base : Heap}
def sp_part (K : PySem.W.Frag) (p : Nat) : Sp := fun vs H Q _ => ∃ (F : Hp) (m : Nat), vs = [.int (m : Int), .int ((p + 1 : Nat) : Int)] ∧ Same F H ∧ m ≤ 20 ∧ ∀ u F' H', Xt F H F' H' → LstX (LstX IntR) F' u (partsL m p) → Q u H'
theorem part_ok (T : Txt K mg) : ∀ p : Nat, p ≤ 2 → Ok P w K mg base (p + 1) (He.ga K "_law_partings") (sp_part K p)
  | 0, _ => by
    refine Ok.of T.fd_law_partings Txt.b_law_partings sc_law_partings (fun vs H Q E h => ?_) fun cdv A outer s H vs Q E hr h => ?_
    · obtain ⟨_, _, rfl, _⟩ := h
      rfl
    obtain ⟨F, m, rfl, s, hm, q⟩ := h
    refine ⟨_, (pss_cons (ps_if (pt_cmpR (op_eq2 hr) (pv 1) pe_int (nomark _)) (pss_one (ps_ret (pe_lst (pa_cons (pe_lst (pa_cons (pv 0) pa_nil)) pa_nil)))) pss_nil)
      (pss_cons (ps_set (i := 2) sc_law_partings.nd rfl (Or.inl rfl) (pe_lst pa_nil))
      (pss_cons (ps_for PassesOwn.never rfl (pi_range1 (by rfl) T.f_range (pa_cons (pe_op op_add2 (pv 0) pe_int) pa_nil)) (pg_name (i := 3) sc_law_partings.nd rfl (Or.inr rfl)) (pss_one (ps_set (i := 2) sc_law_partings.nd rfl (Or.inl rfl) (pe_op op_add2 (pv 2) (pe_lc rfl sc_law_partings.nd (pi_list pe_never) (blkOk_by (own := [("_law_rest", 4)]) (N := ["_law_many_here", "_law_parts", "_law_found", "_law_first", "_law_rest"]) (sc := (defScope s_law_partings)) (by decide +kernel)) (fun _ _ _ _ _ => (pg_name (i := 4) sc_law_partings.nd rfl (Or.inl rfl))) (fun _ _ _ _ _ => pts_nil) (fun _ _ _ _ _ => (pe_op op_add2 (pe_lst (pa_cons (pv 3) pa_nil)) (pv 4))))))))
      (pss_one (ps_ret (pv 2)))))), ?_⟩
    walk_at "st"
    walk_at "rd"
    refine ifT rfl ?_
    walk_at "rd"
    refine ⟨szl (by simp), fun p hp => ?_⟩
    have x1 := (Xt.refl s).new (o := .lst [.int (m : Int)]) hp
    walk_at "rd"
    refine ⟨szl (by simp), fun p2 hp2 => ?_⟩
    refine q _ _ _ (x1.new hp2) ⟨p2, _, rfl, upd_same, .cons ⟨p, _, rfl, (same_new (x1.sub.free hp2)) _ _ upd_same, .cons rfl .nil⟩ .nil⟩
  | p + 1, hp2 => by
    have ih := part_ok T p (by omega)
    refine Ok.of T.fd_law_partings Txt.b_law_partings sc_law_partings (fun vs H Q E h => ?_) fun cdv A outer s H vs Q E hr h => ?_
    · obtain ⟨_, _, rfl, _⟩ := h
      rfl
    obtain ⟨F, m, rfl, s, hm, q⟩ := h
    refine ⟨_, (pss_cons (ps_if (pt_cmpR (op_eq2 hr) (pv 1) pe_int (nomark _)) (pss_one (ps_ret (pe_lst (pa_cons (pe_lst (pa_cons (pv 0) pa_nil)) pa_nil)))) pss_nil)
      (pss_cons (ps_set (i := 2) sc_law_partings.nd rfl (Or.inl rfl) (pe_lst pa_nil))
      (pss_cons (ps_for PassesOwn.never rfl (pi_range1 (by rfl) T.f_range (pa_cons (pe_op op_add2 (pv 0) pe_int) pa_nil)) (pg_name (i := 3) sc_law_partings.nd rfl (Or.inr rfl)) (pss_one (ps_set (i := 2) sc_law_partings.nd rfl (Or.inl rfl) (pe_op op_add2 (pv 2) (pe_lc rfl sc_law_partings.nd (pi_list (pe_cl ih (hr.mono (Nat.le_refl _)) (by rfl) T.g_law_partings (pa_cons (pe_op op_sub (pv 0) (pv 3)) (pa_cons (pe_op op_sub (pv 1) pe_int) pa_nil)))) (blkOk_by (own := [("_law_rest", 4)]) (N := ["_law_many_here", "_law_parts", "_law_found", "_law_first", "_law_rest"]) (sc := (defScope s_law_partings)) (by decide +kernel)) (fun _ _ _ _ _ => (pg_name (i := 4) sc_law_partings.nd rfl (Or.inl rfl))) (fun _ _ _ _ _ => pts_nil) (fun _ _ _ _ _ => (pe_op op_add2 (pe_lst (pa_cons (pv 3) pa_nil)) (pv 4))))))))
      (pss_one (ps_ret (pv 2)))))), ?_⟩
    walk_at "st"
    walk_at "rd"
    refine ifF (by omega) ?_
    walk_at "rd"
    refine ⟨szl (by simp), fun p0 hp0 => ?_⟩
    have x0 := (Xt.refl s).new (o := .lst []) hp0
    walk_at "rd"
    rw [show (m : Int) + 1 = ((m + 1 : Nat) : Int) by omega]
    refine fo_rng (fun i σ H1 => ∃ (F1 : Hp) (l : Addr) (y3 y4 : Option V), σ = [some (.int (m : Int)), some (.int ((p + 1 + 1 : Nat) : Int)), some (.ref l), y3, y4] ∧ Xt F H F1 H1 ∧ LstX (LstX IntR) F1 (.ref l) ((List.range i).flatMap fun i => (partsL (m - i) p).map fun r => (i : Int) :: r) ∧ ((List.range i).flatMap fun i => (partsL (m - i) p).map fun r => (i : Int) :: r).length ≤ i * 1000) (by omega)
      ⟨_, p0, _, _, rfl, x0, ⟨p0, [], rfl, upd_same, .nil⟩, by simp⟩ ?_ ?_
    · rintro i σ H1 hi ⟨F1, l, y3, y4, rfl, x1, hl, hlen⟩
      walk_at "rd"
      have e1 : (m : Int) - (i : Int) = ((m - i : Nat) : Int) := by omega
      have e2 : ((p + 1 + 1 : Nat) : Int) - 1 = ((p + 1 : Nat) : Int) := by omega
      rw [e1, e2]
      refine ⟨F1, m - i, rfl, x1.sub, by omega, fun u F2 H2 x2 hu => ?_⟩
      have hul : (partsL (m - i) p).length ≤ 1000 := by
        have h1 := partsL_len p (m - i)
        have h2 : (m - i + 1) ^ p ≤ 21 ^ p := Nat.pow_le_pow_left (by omega) p
        have h3 : 21 ^ p ≤ 21 ^ 2 := Nat.pow_le_pow_right (by decide) (by omega)
        have h4 : (21 : Nat) ^ 2 = 441 := by decide
        omega
      refine lc_listX (R := LstX IntR) (K := K) (LstX IntR) (fun _ => true) (fun r : List Int => (i : Int) :: r) hu.lst x2.sub hul (fun j r F3 H3 v hy x hv Z Z0 hZ _ => ?_) fun D F3 H3 x3 hD => ?_
      · obtain ⟨a, vs, rfl, ha, hra⟩ := hv
        have hrl : r.length = p + 1 := ((partsL_mem p _ r).mp (List.mem_of_getElem? hy)).1
        have hvl := hra.length
        walk_at "wp"
        walk_at "rd"
        refine ⟨rfl, ?_⟩
        walk_at "rd"
        refine ⟨szl (by simp), fun p3 hp3 => ?_⟩
        have x4 := (Xt.refl x.sub).newH (o := .lst [.int (i : Int)]) hp3
        walk_at "rd"
        refine rd_cat upd_same (x4.sub _ _ ha) (szl (by simp; omega)) fun p5 hp5 => ?_
        refine hZ rfl _ _ _ (x4.new hp5) ⟨p5, _, rfl, upd_same, .cons rfl (hra.imp fun _ _ r => r)⟩
      · rw [filtT] at hD
        obtain ⟨la, lvs, el, hla, hlva⟩ := hl
        cases el
        obtain ⟨da, dvs, ed, hda, hdva⟩ := hD
        cases ed
        have n1 := hlva.length
        have n2 := hdva.length
        rw [List.length_map] at n2
        refine rd_cat (x3.hh _ _ (x2.hh _ _ (x1.sub _ _ hla))) (x3.sub _ _ hda) (szL (by rw [n1, n2]; omega)) fun p5 hp5 => ?_
        walk_at "rd"
        have x5 := (x1.trans (x2.trans x3)).new (o := .lst (lvs ++ dvs)) hp5
        have s5 := same_new (o := .lst (lvs ++ dvs)) (x3.sub.free hp5)
        refine ⟨_, p5, _, _, rfl, x5, ⟨p5, _, rfl, upd_same, ?_⟩, ?_⟩
        · rw [List.range_succ, List.flatMap_append, List.flatMap_singleton]
          exact (hlva.imp fun _ _ r => sm_mo (x2.ff.trans (x3.ff.trans s5)) r).append (hdva.imp fun _ _ r => sm_mo s5 r)
        · rw [List.range_succ, List.flatMap_append, List.flatMap_singleton, List.length_append, List.length_map]
          omega
    · rintro σ H1 ⟨F1, l, y3, y4, rfl, x1, hl, hlen⟩
      walk_at "rd"
      exact q _ _ _ x1 hl
def sp_law_partings (K : PySem.W.Frag) : Sp := sp_part K 2
theorem ok_law_partings (T : Txt K mg) : Ok P w K mg base 9 (He.ga K "_law_partings") (sp_law_partings K) := (part_ok T 2 (Nat.le_refl _)).mono (by decide)
/-! ### bits -/
theorem bit_law (l k : Nat) : decide ((l : Int) / ((2 ^ k : Nat) : Int) % 2 = 1) = l.testBit k := by
  rw [Nat.testBit_eq_decide_div_mod_eq, ← Int.natCast_ediv]
  exact decide_eq_decide.mpr (by omega)
def sp_law_in : Sp := fun vs H Q _ => ∃ l k : Nat, vs = [.int (l : Int), .int (k : Int)] ∧ k ≤ 20 ∧ Q (.bl (l.testBit k)) H
theorem ok_law_in (T : Txt K mg) : Ok P w K mg base 1 (He.ga K "_law_in") sp_law_in := by
  refine Ok.of T.fd_law_in Txt.b_law_in sc_law_in (fun vs H Q E h => ?_) fun cdv A outer s H vs Q E hr h => ?_
  · obtain ⟨_, _, rfl, _⟩ := h
    rfl
  obtain ⟨l, k, rfl, hk, q⟩ := h
  have hp : 2 ^ k ≤ 2 ^ 20 := Nat.pow_le_pow_right (by decide) hk
  have hp0 : 0 < 2 ^ k := Nat.pos_of_ne_zero (by simp)
  have h20 : (2 : Nat) ^ 20 = 1048576 := by decide
  refine ⟨_, (pss_one (ps_ret (pe_cmpR (op_eq2 hr) (pe_op op_mod (pe_callTy call_intN (by rfl) T.f_int (by decide +kernel) (pa_cons (pe_op op_fdiv (pv 0) (pe_op op_shl pe_int (pv 1))) pa_nil)) pe_int) pe_int (nomark _)))), ?_⟩
  walk_at "st"
  walk_at "rd"
  refine rd_I ⟨by omega, by omega, by decide⟩ ?_
  rw [pow_nat]
  refine rd_I ⟨by omega, by omega⟩ ?_
  walk_at "rd"
  refine rd_I (by decide) ?_
  walk_at "rd"
  rw [bit_law]
  exact q
def sp_law_less : Sp := fun vs H Q _ => ∃ a b : Nat, vs = [.int (a : Int), .int (b : Int)] ∧ Q (.bl (!decide (a = b) && decide (a &&& b = a))) H
theorem ok_law_less (T : Txt K mg) : Ok P w K mg base 1 (He.ga K "_law_less") sp_law_less := by
  refine Ok.of T.fd_law_less Txt.b_law_less sc_law_less (fun vs H Q E h => ?_) fun cdv A outer s H vs Q E hr h => ?_
  · obtain ⟨_, _, rfl, _⟩ := h
    rfl
  obtain ⟨a, b, rfl, q⟩ := h
  refine ⟨_, (pss_one (ps_ret (pe_and (pe_cmpR (op_ne2 hr) (pv 0) (pv 1) (nomark _)) (pe_one (pe_cmpR (op_eq2 hr) (pe_op op_and (pv 0) (pv 1)) (pv 0) (nomark _)))))), ?_⟩
  walk_at "st"
  walk_at "rd"
  by_cases h : a = b
  · subst h
    refine ifNF rfl ?_
    rw [decide_eq_true rfl] at q
    exact q
  · refine ifNT (by omega) ?_
    walk_at "rd"
    rw [band_nat, decide_eq_decide.mpr (show (((a &&& b : Nat) : Int) = (a : Int)) ↔ a &&& b = a by omega)]
    rw [decide_eq_false h] at q
    exact q
def movedL (l : Nat) (order : List Nat) : Nat := ((((List.range order.length).zip order).filter fun p => l.testBit p.2).map fun p => 2 ^ p.1).sum
def sp_law_moved (K : PySem.W.Frag) : Sp := fun vs H Q _ => ∃ (F : Hp) (v : V) (l : Nat) (order : List Nat), vs = [.int (l : Int), v] ∧ Same F H ∧ LstR K NatR F v order ∧ order.length ≤ 10 ∧ (∀ k ∈ order, k ≤ 20) ∧ ∀ H', Same H H' → Q (.int (movedL l order : Nat)) H'
theorem sum_nat (xs : List Nat) : (xs.map fun n : Nat => (n : Int)).sum = ((xs.sum : Nat) : Int) := by
  induction xs with
  | nil => rfl
  | cons x xs ih => rw [List.map_cons, List.sum_cons, List.sum_cons, ih]; omega
theorem ok_law_moved (T : Txt K mg) : Ok P w K mg base 2 (He.ga K "_law_moved") (sp_law_moved K) := by
  refine Ok.of T.fd_law_moved Txt.b_law_moved sc_law_moved (fun vs H Q E h => ?_) fun cdv A outer s H vs Q E hr h => ?_
  · obtain ⟨_, _, _, _, rfl, _⟩ := h
    rfl
  obtain ⟨F, v, l, order, rfl, s, hv, hl, hk, q⟩ := h
  refine ⟨_, (pss_one (ps_ret (pe_callB (cr_sum rfl) (by rfl) T.f_sum (by decide +kernel) (pa_cons (pe_lc rfl sc_law_moved.nd (pi_enum (by rfl) T.f_enumerate (pa_cons (pv 1) pa_nil)) (blkOk_by (own := [("_law_at", 2), ("_law_k", 3)]) (N := ["_law_lot", "_law_order", "_law_at", "_law_k"]) (sc := (defScope s_law_moved)) (by decide +kernel)) (fun _ _ _ _ _ => (pg_tupK (K := K) (n := 2) rfl rfl (pgs_cons (pg_name (i := 2) sc_law_moved.nd rfl (Or.inl rfl)) (pgs_cons (pg_name (i := 3) sc_law_moved.nd rfl (Or.inl rfl)) pgs_nil)))) (fun _ _ _ _ _ => (pts_one (pt_val (pe_cl (ok_law_in T) (hr.mono (by decide)) (by rfl) T.g_law_in (pa_cons (pv 0) (pa_cons (pv 3) pa_nil)))))) (fun _ _ _ _ _ => (pe_op op_shl pe_int (pv 2)))) pa_nil)))), ?_⟩
  walk_at "st"
  walk_at "rd"
  refine lc_enum (R := NatR) NatR (fun p : Nat × Nat => l.testBit p.2) (fun p => 2 ^ p.1) hv s (by omega) (fun i y F1 H1 Tp vy hy x hvy hT Z Z0 hZ hZ0 => ?_) fun D F1 H1 x1 hD => ?_
  · obtain rfl : vy = .int (y : Int) := hvy
    have hi : i < order.length := (List.getElem?_eq_some_iff.mp hy).1
    walk_at "wp"
    refine rd_tupG (SqT.of upd_same) rfl ?_
    walk_at "rd"
    refine ⟨rfl, ?_⟩
    have xt : Xt F1 H1 F1 (upd H1 Tp (.tup [.int (i : Nat), .int (y : Int)])) := (Xt.refl x.sub).newH hT
    walk_at "rd"
    refine ⟨l, y, rfl, hk y (List.mem_of_getElem? hy), ?_⟩
    walk_at "rd"
    cases hb : l.testBit y with
    | true =>
      walk_at "rd"
      refine rd_I ⟨by omega, by omega, by decide⟩ ?_
      rw [pow_nat]
      exact hZ hb _ _ _ xt rfl
    | false =>
      walk_at "rd"
      exact hZ0 hb _ _ xt
  · obtain ⟨_, vs, e, hs, ha⟩ := hD
    cases e
    rw [nat_all2 ha] at hs
    walk_at "rd"
    have e : ∀ xs : List Nat, (xs.map fun n : Nat => V.int (n : Int)) = (xs.map fun n : Nat => (n : Int)).map V.int := fun xs => by rw [List.map_map]; rfl
    rw [e] at hs
    refine rd_sum (x1.sub.seq hs) ?_
    rw [sum_nat]
    exact q _ x1.hh
end
end Wp


set_option Elab.async false
set_option linter.all false
set_option maxRecDepth 100000
set_option maxHeartbeats 4000000
namespace Wp
open PySem PySem.Spec PyProof.Rows L2
local macro_rules | `(tactic| walk_at "rd") => `(tactic| repeat (first
  | ((with_reducible apply rd_var); · exact rfl)
  | with_reducible refine rd_c ?_ | with_reducible refine rd_op ?_ | with_reducible refine rd_un ?_ | with_reducible refine rd_test ?_ | with_reducible refine rd_B ?_ | with_reducible refine rd_bl ?_
  | with_reducible refine rd_and ?_ | with_reducible refine rd_or ?_ | with_reducible refine rd_not ?_ | with_reducible refine rd_andV ?_ | with_reducible refine rd_orV ?_ | with_reducible refine rd_notV ?_ | with_reducible refine rd_ifE ?_
  | with_reducible refine rd_seq ?_ | with_reducible refine rd_asg ?_ | ((with_reducible apply rd_name); · (simp only [List.set_cons_zero, List.set_cons_succ]; exact rfl)) | with_reducible refine rd_ret ?_ | with_reducible refine rd_drop ?_ | with_reducible refine rd_if ?_ | with_reducible refine rd_next ?_ | with_reducible refine rd_break ?_ | with_reducible refine rd_cont ?_
  | with_reducible refine rd_cl ?_ | with_reducible refine rd_cb ?_ | with_reducible refine rd_mk ?_ | with_reducible refine rd_cons ?_ | with_reducible refine rd_nil ?_ | with_reducible refine rd_tup ?_ | with_reducible refine rd_lst ?_ | with_reducible refine rd_at ?_ | with_reducible refine rd_gAt ?_
  | with_reducible refine rd_isN ?_ | with_reducible refine rd_notN ?_ | with_reducible refine rd_abs ?_ | with_reducible refine rd_max ?_ | with_reducible refine rd_int ?_ | with_reducible refine rd_intB ?_ | with_reducible refine rd_consG ?_ | with_reducible refine rd_nilG ?_ | with_reducible refine rd_ipI ?_ | ((with_reducible apply rd_aug); · exact rfl)
  | with_reducible refine rd_par ?_ | with_reducible refine rd_par3 ?_ | ((with_reducible apply rd_parQ); · (simp only [List.set_cons_zero, List.set_cons_succ]; exact rfl)) | ((with_reducible apply rd_par3Q); · (simp only [List.set_cons_zero, List.set_cons_succ]; exact rfl))
  | with_reducible refine rd_yes ?_ | with_reducible refine rd_chain ?_ | with_reducible refine rd_bm ?_ | with_reducible refine rd_bm0 ?_ | with_reducible refine rd_me ?_ | with_reducible refine rd_augS ?_ | with_reducible refine rd_subG ?_ | with_reducible refine rd_forR ?_ | with_reducible refine rd_sl ?_ | with_reducible refine rd_part ?_ | with_reducible refine rd_partQ ?_ | with_reducible refine rd_noPart ?_ | with_reducible refine rd_lstRg ?_ | with_reducible refine rd_forL ?_ | with_reducible refine rd_forE ?_ | with_reducible refine rd_forZ ?_ | with_reducible refine rd_lcL ?_ | with_reducible refine rd_lcR ?_ | with_reducible refine rd_lcE ?_ | with_reducible refine rd_lcZ ?_ | with_reducible refine rd_while ?_
  | with_reducible refine iteT ?_ | with_reducible refine iteF ?_ | with_reducible refine ifNotT ?_ | with_reducible refine ifNotF ?_ | with_reducible refine rd_I0 ?_ | with_reducible refine rd_U ?_ | with_reducible refine rd_add ?_ | with_reducible refine rd_eqI ?_ | with_reducible refine rd_neI ?_ | with_reducible refine rd_eqB ?_))
local macro_rules | `(tactic| walk_at "st") => `(tactic| (intro σ hσ; simp only [L2.start, List.map_cons, List.map_nil, List.length_cons, List.length_nil, List.reduceReplicate, List.replicate_zero, List.append_nil, Nat.reduceAdd, Nat.reduceSub, List.cons_append, List.nil_append] at hσ; subst hσ; try dsimp only [cxOf, Cx.nox, Cx.wish]))
local macro_rules | `(tactic| walk_at "wp") => `(tactic| (simp only [List.map_cons, List.map_nil, wipe, List.set_cons_zero, List.set_cons_succ]))
/-! ### the law's outcome -/
def outL (c : LCfg) (ns : List Vt) : List (List Int) × List Int := ((c.areas.zip ns).map fun p => I2 (outA p.1 p.2), I2 (outE c ns))
section
variable {K : PySem.W.Frag}
def VtR (K : PySem.W.Frag) : Hp → V → Vt → Prop := fun F v n => ILst K F v n.l
instance : Mono (VtR K) := ⟨fun s h => Mono.mono (R := ILst K) s h⟩
def WorldR (K : PySem.W.Frag) : Hp → V → LCfg → Prop := fun F v c => ∃ a ar lo hu, v = .ref a ∧ F a = some (.tup [ar, .int (c.ev : Int), .ref lo, .ref hu, .int c.st]) ∧ LstR K AreaR F ar c.areas ∧ F lo = some (.lst ((lotsOf c.f).map .int)) ∧ F hu = some (.tup [.int c.ht, .int c.hb]) ∧ LOk c
instance : Mono (WorldR K) := ⟨fun s h => by
  obtain ⟨a, ar, lo, hu, e, h1, h2, h3, h4, h5⟩ := h
  exact ⟨a, ar, lo, hu, e, s _ _ h1, sm_mo s h2, s _ _ h3, s _ _ h4, h5⟩⟩
def OutR (K : PySem.W.Frag) : Hp → V → List (List Int) × List Int → Prop := fun F v o => ∃ a s e h, v = .ref a ∧ F a = some (.tup [s, e, h]) ∧ LstR K (ILst K) F s o.1 ∧ ILst K F e o.2
instance : Mono (OutR K) := ⟨fun s h => by
  obtain ⟨a, x, y, z, e, h1, h2, h3⟩ := h
  exact ⟨a, x, y, z, e, s _ _ h1, sm_mo s h2, sm_mo s h3⟩⟩
end
def sel3 (n : Vt) (i : Nat) : Int := if i = 0 then n.a else if i = 1 then n.b else n.i
theorem at_sel3 {n : Vt} {i : Nat} (h : i < 3) : atI (n.l.map V.int) (i : Int) = some (.int (sel3 n i)) := by
  have h3 : i = 0 ∨ i = 1 ∨ i = 2 := by omega
  rcases h3 with rfl | rfl | rfl <;> rfl
theorem vtot_sel (ns : List Vt) (i : Nat) (h : i < 3) : (ns.map fun n => sel3 n i).sum = sel3 (vtot ns) i := by
  have h3 : i = 0 ∨ i = 1 ∨ i = 2 := by omega
  induction ns with
  | nil => rcases h3 with rfl | rfl | rfl <;> rfl
  | cons n ns ih =>
    rw [List.map_cons, List.sum_cons, ih, vtot_cons]
    rcases h3 with rfl | rfl | rfl <;> rfl
theorem l_sum (n : Vt) : n.l.sum = n.sum := by
  show n.a + (n.b + (n.i + 0)) = n.a + n.b + n.i
  omega
theorem vt_sum0 {n : Vt} (h : VtOk n) : 0 ≤ n.sum := by
  have := h.a0; have := h.b0; have := h.i0
  unfold Vt.sum
  omega
section
variable {P : Program} {w : World} {K : PySem.W.Frag} {mg : Str → Option Value} {base : Heap}
def sp_law_outcome (K : PySem.W.Frag) : Sp := fun vs H Q _ => ∃ (F : Hp) (wv rv : V) (c : LCfg) (ns : List Vt), vs = [.int 2, wv, rv] ∧ Same F H ∧ WorldR K F wv c ∧ LstR K (VtR K) F rv ns ∧ ns.length = c.areas.length ∧ (∀ n ∈ ns, VtOk n) ∧ VtOk (vtot ns) ∧
  ∀ u F' H', Xt F H F' H' → OutR K F' u (outL c ns) → Q u H'
theorem ok_law_outcome (T : Txt K mg) : Ok P w K mg base 2 (He.ga K "_law_outcome") (sp_law_outcome K) := by
  refine Ok.of T.fd_law_outcome Txt.b_law_outcome sc_law_outcome (fun vs H Q E h => ?_) fun cdv A outer s H vs Q E hr h => ?_
  · obtain ⟨_, _, _, _, _, rfl, _⟩ := h
    rfl
  obtain ⟨F, wv, rv, c, ns, rfl, s, ⟨wa, ar, lo, hu, rfl, hwt, har, hlo, hhu, cok⟩, hrv, hlen, hns, htot, q⟩ := h
  have ha2 := cok.a2
  refine ⟨_, (pss_cons (ps_asg (pv 1) (pg_tup rfl (pgs_cons (pg_name (i := 3) sc_law_outcome.nd rfl (Or.inl rfl)) (pgs_cons (pg_name (i := 4) sc_law_outcome.nd rfl (Or.inl rfl)) (pgs_cons (pg_name (i := 5) sc_law_outcome.nd rfl (Or.inl rfl)) (pgs_cons (pg_name (i := 6) sc_law_outcome.nd rfl (Or.inl rfl)) (pgs_cons (pg_name (i := 7) sc_law_outcome.nd rfl (Or.inl rfl)) pgs_nil)))))))
      (pss_cons (ps_set (i := 8) sc_law_outcome.nd rfl (Or.inr rfl) (pe_lst pa_nil))
      (pss_cons (ps_for PassesOwn.never rfl (pi_zip (by rfl) T.f_zip (pa_cons (pv 3) (pa_cons (pv 2) pa_nil))) (pg_tup rfl (pgs_cons (pg_name (i := 9) sc_law_outcome.nd rfl (Or.inl rfl)) (pgs_cons (pg_name (i := 10) sc_law_outcome.nd rfl (Or.inl rfl)) pgs_nil))) (pss_cons (ps_set (i := 11) sc_law_outcome.nd rfl (Or.inl rfl) (pe_cl (ok_law_wanted T) (hr.mono (by decide)) (by rfl) T.g_law_wanted (pa_cons (pe_ix ix_seq (pv 9) pe_int (fun _ _ => rfl)) (pa_cons (pe_callB (cr_sum rfl) (by rfl) T.f_sum (by decide +kernel) (pa_cons (pv 10) pa_nil)) pa_nil))))
      (pss_one (ps_expr (pe_bm PySem.F.plainAttrs_list PySem.F.slot_list_append PySem.F.type_list_append mt_append (pv 8) (pa_cons (pe_cl (ok_law_many T) (hr.mono (by decide)) (by rfl) T.g_law_many (pa_cons (pv 0) (pa_cons (pe_cl (ok_law_takers T) (hr.mono (by decide)) (by rfl) T.g_law_takers (pa_cons (pv 10) (pa_cons (pv 11) (pa_cons (pe_op op_mul2 (pe_lst (pa_cons pe_int pa_nil)) (pv 0)) (pa_cons (pe_ix ix_seq (pv 9) pe_int (fun _ _ => rfl)) (pa_cons (pe_ix ix_seq (pv 9) pe_int (fun _ _ => rfl)) (pa_cons (pe_ix ix_seq (pv 9) pe_int (fun _ _ => rfl)) pa_nil))))))) pa_nil))) pa_nil))))))
      (pss_cons (ps_setLc (i := 10) rfl sc_law_outcome.nd rfl rfl (sw_true rfl rfl rfl (by decide +kernel)) (pi_range1 (by rfl) T.f_range (pa_cons (pe_op op_add2 (pv 0) pe_int) pa_nil)) (blkOk_by (own := [("_law_hand", 14)]) (N := ["_law_hands", "_law_world", "_law_rows", "_law_areas", "_law_evened", "_law_lots", "_law_hurdle", "_law_step", "_law_seats", "_law_area_here", "_law_votes", "_law_wanted_here", "_law_had", "_law_takers_here", "_law_hand", "_law_row"]) (sc := (defScope s_law_outcome)) (by decide +kernel)) (fun _ _ _ _ _ => (pg_name (i := 14) sc_law_outcome.nd rfl (Or.inr rfl))) (fun _ _ _ _ _ => pts_nil) (fun _ _ _ _ _ => (pe_callB (sumK (K := K) rfl rfl) (by rfl) T.f_sum (by decide +kernel) (pa_cons (pe_lc rfl sc_law_outcome.nd (listK (K := K) rfl (pv 2)) (blkOk_by (own := [("_law_row", 15)]) (N := ["_law_hands", "_law_world", "_law_rows", "_law_areas", "_law_evened", "_law_lots", "_law_hurdle", "_law_step", "_law_seats", "_law_area_here", "_law_votes", "_law_wanted_here", "_law_had", "_law_takers_here", "_law_hand", "_law_row"]) (sc := ({ kind := .function, names := [(PySem.Str.ofString ".0", .local), (PySem.Str.ofString "_law_hand", .cell), (PySem.Str.ofString "sum", .globalImplicit), (PySem.Str.ofString "_law_rows", .cell)], isGenerator := false, isCoroutine := false, more := [] } : Scope)) (by decide +kernel)) (fun _ _ _ _ _ => (pg_name (i := 15) sc_law_outcome.nd rfl (Or.inl rfl))) (fun _ _ _ _ _ => pts_nil) (fun _ _ _ _ _ => (pe_ix (ixK (K := K) rfl) (pv 15) (pv 14) (fun _ _ => rfl)))) pa_nil))))
      (pss_cons (ps_setLc (i := 12) rfl sc_law_outcome.nd rfl rfl (sw_true rfl rfl rfl (by decide +kernel)) (pi_range1 (by rfl) T.f_range (pa_cons (pv 0) pa_nil)) (blkOk_by (own := [("_law_hand", 14)]) (N := ["_law_hands", "_law_world", "_law_rows", "_law_areas", "_law_evened", "_law_lots", "_law_hurdle", "_law_step", "_law_seats", "_law_area_here", "_law_votes", "_law_wanted_here", "_law_had", "_law_takers_here", "_law_hand", "_law_row"]) (sc := (defScope s_law_outcome)) (by decide +kernel)) (fun _ _ _ _ _ => (pg_name (i := 14) sc_law_outcome.nd rfl (Or.inr rfl))) (fun _ _ _ _ _ => pts_nil) (fun _ _ _ _ _ => (pe_callB (sumK (K := K) rfl rfl) (by rfl) T.f_sum (by decide +kernel) (pa_cons (pe_lc rfl sc_law_outcome.nd (listK (K := K) rfl (pv 8)) (blkOk_by (own := [("_law_row", 15)]) (N := ["_law_hands", "_law_world", "_law_rows", "_law_areas", "_law_evened", "_law_lots", "_law_hurdle", "_law_step", "_law_seats", "_law_area_here", "_law_votes", "_law_wanted_here", "_law_had", "_law_takers_here", "_law_hand", "_law_row"]) (sc := ({ kind := .function, names := [(PySem.Str.ofString ".0", .local), (PySem.Str.ofString "_law_hand", .cell), (PySem.Str.ofString "sum", .globalImplicit), (PySem.Str.ofString "_law_seats", .cell)], isGenerator := false, isCoroutine := false, more := [] } : Scope)) (by decide +kernel)) (fun _ _ _ _ _ => (pg_name (i := 15) sc_law_outcome.nd rfl (Or.inl rfl))) (fun _ _ _ _ _ => pts_nil) (fun _ _ _ _ _ => (pe_ix (ixK (K := K) rfl) (pv 15) (pv 14) (fun _ _ => rfl)))) pa_nil))))
      (pss_cons (ps_set (i := 13) sc_law_outcome.nd rfl (Or.inl rfl) (pe_cl (ok_law_takers T) (hr.mono (by decide)) (by rfl) T.g_law_takers (pa_cons (pv 10) (pa_cons (pe_cl (ok_law_wanted T) (hr.mono (by decide)) (by rfl) T.g_law_wanted (pa_cons (pv 6) (pa_cons (pe_callB (cr_sum rfl) (by rfl) T.f_sum (by decide +kernel) (pa_cons (pv 10) pa_nil)) pa_nil))) (pa_cons (pv 12) (pa_cons (pv 4) (pa_cons (pv 7) (pa_cons (pv 5) pa_nil))))))))
      (pss_one (ps_ret (pe_tup (pa_cons (pv 8) (pa_cons (pe_cl (ok_law_many T) (hr.mono (by decide)) (by rfl) T.g_law_many (pa_cons (pv 0) (pa_cons (pv 13) pa_nil))) (pa_cons (pv 12) pa_nil)))))))))))), ?_⟩
  walk_at "st"
  walk_at "rd"
  refine rd_tupG (SqT.of (s _ _ hwt)) rfl ?_
  walk_at "rd"
  refine ⟨szl (by simp), fun ps hps => ?_⟩
  have o : Own F H F (upd H ps (.lst [])) ps [] := Own.mk' (Xt.refl s) hps
  walk_at "rd"
  refine fo_zip (R := AreaR) (R' := VtR K) (F := F) (fun i σ F1 H1 => ∃ (acc : List V) (y9 y10 y11 : Option V), σ = [some (.int 2), some (.ref wa), some rv, some ar, some (.int (c.ev : Int)), some (.ref lo), some (.ref hu), some (.int c.st), some (.ref ps), y9, y10, y11, none, none, none, none] ∧ Xt F H F1 H1 ∧ Own F H F1 H1 ps acc ∧ acc.length ≤ i ∧ i ≤ 2 ∧
      All2 (ILst K F1) acc (((c.areas.zip ns).take i).map fun p => I2 (outA p.1 p.2))) har hrv (by omega)
    ⟨[], _, _, _, rfl, o.x, o, Nat.zero_le _, by decide, .nil⟩ (fun i σ F1 H1 ⟨_, _, _, _, _, x, _⟩ => ⟨x.ff, x.sub⟩) ?_ ?_
  · rintro i a n va vn Tp σ F1 H1 hya hyn hva hvn ⟨acc, y9, y10, y11, rfl, x, o, hal, hi2, hacc⟩ hT
    have hi : i < c.areas.length := (List.getElem?_eq_some_iff.mp hya).1
    have nok := hns n (List.mem_of_getElem? hyn)
    have xt : Xt F1 H1 F1 (upd H1 Tp (.tup [va, vn])) := (Xt.refl x.sub).newH hT
    have o := o.step xt
    obtain ⟨aa, pa, hua, nm, rfl, hat, hpa, hhua, aok⟩ := id hva
    obtain ⟨ln, rfl, hln⟩ := ilst_to hvn
    have hs3 := aok.s3
    refine rd_tupG (SqT.of upd_same) rfl ?_
    walk_at "rd"
    refine rd_ixT (SqT.of (xt.sub _ _ hat)) rfl ?_
    walk_at "rd"
    refine rd_sum (xt.sub.seq hln) ?_
    rw [l_sum]
    walk_at "rd"
    refine ⟨hua, a.ht, a.hb, n.sum, rfl, SqT.of (xt.sub _ _ hhua), aok.h, vt_sum0 nok, nok.m, ?_⟩
    walk_at "rd"
    refine ⟨ty_list (SqL.of o.e), ?_⟩
    walk_at "rd"
    refine ⟨szl (by simp), fun pz hpz => ?_⟩
    have x2 := xt.newH (o := .lst [.int 0]) hpz
    have o := o.step ((Xt.refl xt.sub).newH (o := .lst [.int 0]) hpz)
    walk_at "rd"
    refine rd_rep upd_same (by decide) (by decide) (by decide) fun pz2 hpz2 => ?_
    have x3 := x2.new (o := .lst [.int 0, .int 0]) hpz2
    have o := o.step ((Xt.refl x2.sub).new (o := .lst [.int 0, .int 0]) hpz2)
    have hz : ILst K (upd F1 pz2 (.lst [.int 0, .int 0])) (.ref pz2) [0, 0] := ilst_of (SqL.of upd_same)
    walk_at "rd"
    refine rd_ixT (SqT.of (x3.fH _ _ hat)) rfl ?_
    walk_at "rd"
    refine rd_ixT (SqT.of (x3.fH _ _ hat)) rfl ?_
    walk_at "rd"
    refine rd_ixT (SqT.of (x3.fH _ _ hat)) rfl ?_
    walk_at "rd"
    refine ⟨_, .ref ln, .ref pz2, .ref pa, a.S, a.f, a.st, want a.ht a.hb n.sum, n.a, n.b, n.i, 0, 0, rfl, x3.sub, x3.mono hvn, hz, ilst_of (SqL.of (x3.ff _ _ hpa)), by omega, aok.st, nok.a0, nok.b0, by decide, by decide, by decide, by decide, fun ut F2 H2 x4 hut => ?_⟩
    have o := o.step x4
    walk_at "rd"
    refine ⟨F2, ut, runM a.f a.st (want a.ht a.hb n.sum) n.a n.b a.S 0 0, rfl, x4.sub, hut, ?_, fun um F3 H3 x5 hum => ?_⟩
    · have := runM_len a.f a.st (want a.ht a.hb n.sum) n.a n.b a.S 0 0
      omega
    have o := o.step x5
    walk_at "rd"
    refine rd_append o.e (by omega) ?_
    have xx := x3.trans (x4.trans x5)
    refine ⟨F3, acc ++ [um], _, _, _, rfl, (o.set (acc' := acc ++ [um])).x, o.set, by rw [List.length_append]; exact Nat.succ_le_succ hal, by omega, ?_⟩
    rw [take_snoc (List.getElem?_zip_eq_some.mpr ⟨hya, hyn⟩ : (c.areas.zip ns)[i]? = some (a, n)), List.map_append]
    exact (hacc.imp fun _ _ r => sm_mo xx.ff r).snoc hum.lst
  · rintro σ F1 H1 ⟨acc, y9, y10, y11, rfl, x, o, hal, hi2, hacc⟩
    have hzl : (c.areas.zip ns).length = c.areas.length := by rw [List.length_zip]; omega
    rw [show c.areas.length = (c.areas.zip ns).length from hzl.symm, List.take_length] at hacc
    have xf := o.fin
    have hseats : LstR K (ILst K) (upd F1 ps (.lst acc)) (.ref ps) ((c.areas.zip ns).map fun p => I2 (outA p.1 p.2)) := ⟨ps, acc, rfl, SqL.of upd_same, hacc.imp fun _ _ r => sm_mo o.ff r⟩
    generalize upd F1 ps (.lst acc) = F2 at xf hseats
    clear o x
    have hrv2 := xf.mono hrv
    walk_at "rd"
    refine lc_rng (K := K) (n := 3) IntR (fun _ => true) (fun i : Nat => sel3 (vtot ns) i) xf.sub (by decide) (fun i F3 H3 hi x Z Z0 hZ _ => ?_) fun D F3 H3 x3 hD => ?_
    · walk_at "wp"
      walk_at "rd"
      refine ⟨rfl, ?_⟩
      walk_at "rd"
      refine lc_list (R := VtR K) IntR (fun _ => true) (fun n : Vt => sel3 n i) (x.mono hrv2) x.sub (by omega) (fun j n F4 H4 v hy x4 hv Z' Z0' hZ' _ => ?_) fun D4 F4 H4 x4 hD4 => ?_
      · obtain ⟨ln, rfl, hln⟩ := ilst_to hv
        walk_at "wp"
        walk_at "rd"
        refine ⟨rfl, ?_⟩
        walk_at "rd"
        refine rd_ixL (x4.sub.seq hln) (at_sel3 hi) ?_
        exact hZ' rfl _ _ _ (Xt.refl x4.sub) rfl
      · obtain ⟨_, e, hD4⟩ := ilst_to hD4
        cases e
        walk_at "rd"
        refine rd_sum (x4.sub.seq hD4) ?_
        rw [filt_map, vtot_sel ns i hi]
        exact hZ rfl _ _ _ x4 rfl
    have hvt : ILst K F3 (.ref D) (vtot ns).l := by
      rw [filt_map] at hD
      exact hD
    have hseats3 := x3.mono hseats
    walk_at "rd"
    refine lc_rng (K := K) (n := 2) IntR (fun _ => true) (fun i : Nat => sel (hadL c ns) i) x3.sub (by decide) (fun i F4 H4 hi x Z Z0 hZ _ => ?_) fun D2 F4 H4 x4 hD2 => ?_
    · walk_at "wp"
      walk_at "rd"
      refine ⟨rfl, ?_⟩
      walk_at "rd"
      refine lc_list (R := ILst K) IntR (fun _ => true) (fun p : List Int => p.getD i 0) (x.mono hseats3) x.sub (by rw [List.length_map]; omega) (fun j y F5 H5 v hy x5 hv Z' Z0' hZ' _ => ?_) fun D5 F5 H5 x5 hD5 => ?_
      · obtain ⟨l, rfl, hl⟩ := ilst_to hv
        obtain ⟨y', hy', rfl⟩ : ∃ y', y' ∈ c.areas.zip ns ∧ I2 (outA y'.1 y'.2) = y := by
          have := List.mem_of_getElem? hy
          simpa using this
        walk_at "wp"
        walk_at "rd"
        refine ⟨rfl, ?_⟩
        walk_at "rd"
        refine rd_ixL (x5.sub.seq hl) (at_sel (p := outA y'.1 y'.2) hi rfl) ?_
        refine hZ' rfl _ _ _ (Xt.refl x5.sub) ?_
        have h3 : i = 0 ∨ i = 1 := by omega
        rcases h3 with rfl | rfl <;> rfl
      · obtain ⟨_, e, hl⟩ := ilst_to hD5
        cases e
        walk_at "rd"
        refine rd_sum (x5.sub.seq hl) ?_
        refine hZ rfl _ _ _ x5 ?_
        rw [filtT, List.map_map]
        have h3 : i = 0 ∨ i = 1 := by omega
        unfold hadL sum2
        rcases h3 with rfl | rfl
        · simp [IntR, sel, I2, Function.comp_def]
        · simp [IntR, sel, I2, Function.comp_def]
    have hhd : ILst K F4 (.ref D2) [(hadL c ns).1, (hadL c ns).2] := by
      rw [filt_map] at hD2
      exact hD2
    have x34 := x3.trans x4
    have x04 := xf.trans x34
    have hvt4 := x4.mono hvt
    obtain ⟨lt, elt, hlt⟩ := ilst_to hvt4
    cases elt
    walk_at "rd"
    refine rd_sum (x4.sub.seq hlt) ?_
    rw [l_sum]
    walk_at "rd"
    refine ⟨hu, c.ht, c.hb, (vtot ns).sum, rfl, SqT.of (x04.fH _ _ hhu), cok.h, vt_sum0 htot, htot.m, ?_⟩
    walk_at "rd"
    have hbd := hadL_bd cok ns
    have he2 := cok.e2
    refine ⟨F4, .ref D, .ref D2, .ref lo, c.ev, c.f, c.st, want c.ht c.hb (vtot ns).sum, (vtot ns).a, (vtot ns).b, (vtot ns).i, (hadL c ns).1, (hadL c ns).2, rfl, x4.sub, hvt4, hhd, ilst_of (SqL.of (x04.ff _ _ hlo)), by omega, cok.st, htot.a0, htot.b0, by omega, by omega, by omega, by omega, fun ut F5 H5 x5 hut => ?_⟩
    walk_at "rd"
    refine ⟨F5, ut, runM c.f c.st (want c.ht c.hb (vtot ns).sum) (vtot ns).a (vtot ns).b c.ev (hadL c ns).1 (hadL c ns).2, rfl, x5.sub, hut, ?_, fun um F6 H6 x6 hum => ?_⟩
    · have := runM_len c.f c.st (want c.ht c.hb (vtot ns).sum) (vtot ns).a (vtot ns).b c.ev (hadL c ns).1 (hadL c ns).2
      omega
    walk_at "rd"
    refine ⟨szl (by simp), fun pt hpt => ?_⟩
    have x7 := (x04.trans (x5.trans x6)).new (o := .tup [.ref ps, um, .ref D2]) hpt
    have s7 := same_new (o := .tup [.ref ps, um, .ref D2]) (x6.sub.free hpt)
    exact q _ _ _ x7 ⟨pt, .ref ps, um, .ref D2, rfl, upd_same, sm_mo (x4.ff.trans (x5.ff.trans (x6.ff.trans s7))) hseats3, sm_mo s7 hum.lst⟩
end
end Wp


set_option Elab.async false
set_option linter.all false
set_option maxRecDepth 100000
set_option maxHeartbeats 4000000
namespace Wp
open PySem PySem.Spec PyProof.Rows L2
local macro_rules | `(tactic| walk_at "rd") => `(tactic| repeat (first
  | ((with_reducible apply rd_var); · exact rfl)
  | with_reducible refine rd_c ?_ | with_reducible refine rd_op ?_ | with_reducible refine rd_un ?_ | with_reducible refine rd_test ?_ | with_reducible refine rd_B ?_ | with_reducible refine rd_bl ?_
  | with_reducible refine rd_and ?_ | with_reducible refine rd_or ?_ | with_reducible refine rd_not ?_ | with_reducible refine rd_andV ?_ | with_reducible refine rd_orV ?_ | with_reducible refine rd_notV ?_ | with_reducible refine rd_ifE ?_
  | with_reducible refine rd_seq ?_ | with_reducible refine rd_asg ?_ | ((with_reducible apply rd_name); · (simp only [List.set_cons_zero, List.set_cons_succ]; exact rfl)) | with_reducible refine rd_ret ?_ | with_reducible refine rd_drop ?_ | with_reducible refine rd_if ?_ | with_reducible refine rd_next ?_ | with_reducible refine rd_break ?_ | with_reducible refine rd_cont ?_
  | with_reducible refine rd_cl ?_ | with_reducible refine rd_cb ?_ | with_reducible refine rd_mk ?_ | with_reducible refine rd_cons ?_ | with_reducible refine rd_nil ?_ | with_reducible refine rd_tup ?_ | with_reducible refine rd_lst ?_ | with_reducible refine rd_at ?_ | with_reducible refine rd_gAt ?_
  | with_reducible refine rd_isN ?_ | with_reducible refine rd_notN ?_ | with_reducible refine rd_abs ?_ | with_reducible refine rd_max ?_ | with_reducible refine rd_int ?_ | with_reducible refine rd_intB ?_ | with_reducible refine rd_consG ?_ | with_reducible refine rd_nilG ?_ | with_reducible refine rd_ipI ?_ | ((with_reducible apply rd_aug); · exact rfl)
  | with_reducible refine rd_par ?_ | with_reducible refine rd_par3 ?_ | ((with_reducible apply rd_parQ); · (simp only [List.set_cons_zero, List.set_cons_succ]; exact rfl)) | ((with_reducible apply rd_par3Q); · (simp only [List.set_cons_zero, List.set_cons_succ]; exact rfl))
  | with_reducible refine rd_yes ?_ | with_reducible refine rd_chain ?_ | with_reducible refine rd_bm ?_ | with_reducible refine rd_bm0 ?_ | with_reducible refine rd_me ?_ | with_reducible refine rd_augS ?_ | with_reducible refine rd_subG ?_ | with_reducible refine rd_forR ?_ | with_reducible refine rd_sl ?_ | with_reducible refine rd_part ?_ | with_reducible refine rd_partQ ?_ | with_reducible refine rd_noPart ?_ | with_reducible refine rd_lstRg ?_ | with_reducible refine rd_forL ?_ | with_reducible refine rd_forE ?_ | with_reducible refine rd_forZ ?_ | with_reducible refine rd_lcL ?_ | with_reducible refine rd_lcR ?_ | with_reducible refine rd_lcE ?_ | with_reducible refine rd_lcZ ?_ | with_reducible refine rd_while ?_
  | with_reducible refine iteT ?_ | with_reducible refine iteF ?_ | with_reducible refine ifNotT ?_ | with_reducible refine ifNotF ?_ | with_reducible refine rd_I0 ?_ | with_reducible refine rd_U ?_ | with_reducible refine rd_add ?_ | with_reducible refine rd_eqI ?_ | with_reducible refine rd_neI ?_ | with_reducible refine rd_eqB ?_))
local macro_rules | `(tactic| walk_at "st") => `(tactic| (intro σ hσ; simp only [L2.start, List.map_cons, List.map_nil, List.length_cons, List.length_nil, List.reduceReplicate, List.replicate_zero, List.append_nil, Nat.reduceAdd, Nat.reduceSub, List.cons_append, List.nil_append] at hσ; subst hσ; try dsimp only [cxOf, Cx.nox, Cx.wish]))
local macro_rules | `(tactic| walk_at "wp") => `(tactic| (simp only [List.map_cons, List.map_nil, wipe, List.set_cons_zero, List.set_cons_succ]))
/-! ### bundles as votes -/
theorem vtot_sub {ms ns : List Vt} (h : List.Sublist ms ns) (hn : ∀ n ∈ ns, VtS n) : (vtot ms).a ≤ (vtot ns).a ∧ (vtot ms).b ≤ (vtot ns).b ∧ (vtot ms).i ≤ (vtot ns).i := by
  induction h with
  | slnil => exact ⟨Int.le_refl _, Int.le_refl _, Int.le_refl _⟩
  | cons n _ ih =>
    have ih := ih fun x hx => hn x (List.mem_cons_of_mem _ hx)
    have h0 := hn n List.mem_cons_self
    have := h0.a0; have := h0.b0; have := h0.i0
    rw [vtot_cons]
    simp only [vadd]
    omega
  | cons_cons n _ ih =>
    have ih := ih fun x hx => hn x (List.mem_cons_of_mem _ hx)
    rw [vtot_cons, vtot_cons]
    simp only [vadd]
    omega
theorem pick_sublist (lot : Nat) (bs : List Bun) : List.Sublist (pick lot bs) bs := by
  unfold pick
  have h := (List.filter_sublist (l := (List.range bs.length).zip bs) (p := fun p => lot.testBit p.1)).map (·.2)
  rw [List.map_snd_zip (by rw [List.length_range]; exact Nat.le_refl _)] at h
  exact h
theorem areaSum_sub {ms bs : List Bun} (h : List.Sublist ms bs) (hb : ∀ b ∈ bs, VtS b.2) (k : Nat) : (areaSum ms k).a ≤ (areaSum bs k).a ∧ (areaSum ms k).b ≤ (areaSum bs k).b ∧ (areaSum ms k).i ≤ (areaSum bs k).i := by
  unfold areaSum
  refine vtot_sub ((h.filter _).map _) fun n hn => ?_
  obtain ⟨b, hb', rfl⟩ := List.mem_map.mp hn
  exact hb b (List.mem_filter.mp hb').1
theorem vtot_two : ∀ {ns : List Vt}, (∀ n ∈ ns, n.sum ≤ 2) → (vtot ns).sum ≤ 2 * (ns.length : Int)
  | [], _ => by decide
  | n :: ns, h => by
    have ih := vtot_two (ns := ns) fun x hx => h x (List.mem_cons_of_mem _ hx)
    have h0 := h n List.mem_cons_self
    rw [vtot_cons, vadd_sum, List.length_cons]
    omega
/-- of few bundles, of few ballots -/
structure BFew (bs : List Bun) : Prop where
  l : bs.length ≤ 6
  s : ∀ b ∈ bs, VtS b.2
  t : ∀ b ∈ bs, b.2.sum ≤ 2
theorem BFew.ok {bs : List Bun} (h : BFew bs) : BOk bs := ⟨by have := h.l; omega, h.s⟩
theorem BFew.area {bs : List Bun} (h : BFew bs) (k : Nat) : (areaSum bs k).sum ≤ 12 := by
  have h1 : ∀ n ∈ (bs.filter fun b => decide (b.1 = k)).map (·.2), n.sum ≤ 2 := fun n hn => by
    obtain ⟨b, hb, rfl⟩ := List.mem_map.mp hn
    exact h.t b (List.mem_filter.mp hb).1
  have h2 := vtot_two h1
  have h3 : ((bs.filter fun b => decide (b.1 = k)).map (·.2)).length ≤ 6 := by
    rw [List.length_map]
    exact Nat.le_trans (List.length_filter_le _ _) h.l
  unfold areaSum
  omega
theorem inside_eq (lot k : Nat) (bs : List Bun) : ((((List.range bs.length).zip bs).filter fun p => decide (p.2.1 = k) && lot.testBit p.1).map fun p => p.2.2) = ((pick lot bs).filter fun b => decide (b.1 = k)).map (·.2) := by
  unfold pick
  rw [List.filter_map, List.map_map, List.filter_filter]
  rfl
/-! ### fillings -/
def fillsL (us : List Int) : List (List (List Int)) := us.foldl (fun fs u => fs.flatMap fun rows => (partsL u.toNat 2).map fun row => rows ++ [row]) [[]]
def vOf (l : List Int) : Vt := ⟨l.getD 0 0, l.getD 1 0, l.getD 2 0⟩
def laterL (seen : List Vt) (rows : List (List Int)) : List Vt := (seen.zip rows).map fun p => vadd p.1 (vOf p.2)
def unsL (m : Nat) (bs : List Bun) (lot : Nat) : List Int := (List.range m).map fun k => (areaSum bs k).sum - (areaSum (pick lot bs) k).sum
def settlesL (c : LCfg) (bs : List Bun) (lot : Nat) : Bool := (fillsL (unsL c.areas.length bs lot)).all fun rows => decide (outL c (laterL (shs c.areas.length (pick lot bs)) rows) = outL c (shs c.areas.length bs))
theorem fillsL_snoc (us : List Int) (u : Int) : fillsL (us ++ [u]) = (fillsL us).flatMap fun rows => (partsL u.toNat 2).map fun row => rows ++ [row] := by
  unfold fillsL
  rw [List.foldl_append]
  rfl
theorem parts3 {u : Nat} {r : List Int} (h : r ∈ partsL u 2) : r.length = 3 ∧ 0 ≤ (vOf r).a ∧ 0 ≤ (vOf r).b ∧ 0 ≤ (vOf r).i ∧ (vOf r).sum = u ∧ (vOf r).l = r := by
  obtain ⟨h1, h2, h3⟩ := (partsL_mem 2 u r).mp h
  match r, h1 with
  | [x, y, z], _ =>
    have := h2 x (by simp)
    have := h2 y (by simp)
    have := h2 z (by simp)
    simp at h3
    refine ⟨rfl, by simpa [vOf], by simpa [vOf], by simpa [vOf], ?_, rfl⟩
    simp [vOf, Vt.sum]
    omega
theorem fills_mem : ∀ (us : List Int) (rows : List (List Int)), rows ∈ fillsL us ↔ All2 (fun r u => r ∈ partsL (Int.toNat u) 2) rows us := by
  intro us
  have key : ∀ (n : Nat) (us : List Int), us.length = n → ∀ rows, rows ∈ fillsL us ↔ All2 (fun r u => r ∈ partsL (Int.toNat u) 2) rows us := by
    intro n
    induction n with
    | zero =>
      intro us hl rows
      rw [List.length_eq_zero_iff.mp hl]
      constructor
      · intro h
        rw [show fillsL [] = [[]] from rfl, List.mem_singleton] at h
        rw [h]
        exact .nil
      · intro h
        cases h
        exact List.mem_singleton.mpr rfl
    | succ n ih =>
      intro us hl rows
      obtain ⟨vs, u, rfl⟩ := SrtO.snoc_of (l := us) (by omega)
      have hl' : vs.length = n := by rw [List.length_append] at hl; simpa using hl
      rw [fillsL_snoc, List.mem_flatMap]
      constructor
      · rintro ⟨rows', h1, h2⟩
        obtain ⟨row, h3, rfl⟩ := List.mem_map.mp h2
        exact ((ih vs hl' rows').mp h1).snoc h3
      · intro h
        have hlen := h.length
        rw [List.length_append] at hlen
        obtain ⟨rows', row, rfl⟩ := SrtO.snoc_of (l := rows) (by rw [hlen]; exact Nat.le_add_left _ _)
        have hl2 : rows'.length = vs.length := by rw [List.length_append] at hlen; simpa using hlen
        have h1 : All2 (fun r u => r ∈ partsL (Int.toNat u) 2) rows' vs := by
          have := h.take rows'.length
          rw [List.take_left', hl2, List.take_left'] at this
          · exact this
          · rfl
          · rfl
        have h2 : row ∈ partsL (Int.toNat u) 2 := by
          obtain ⟨b, hb, r⟩ := h.getL (i := rows'.length) (a := row) (by simp)
          rw [hl2] at hb
          simp at hb
          rw [hb]
          exact r
        exact ⟨rows', (ih vs hl' rows').mpr h1, List.mem_map.mpr ⟨row, h2, rfl⟩⟩
  exact key us.length us rfl
theorem fills_len : ∀ (us : List Int), (∀ u ∈ us, u.toNat ≤ 20) → (fillsL us).length ≤ 441 ^ us.length := by
  intro us
  have key : ∀ (n : Nat) (us : List Int), us.length = n → (∀ u ∈ us, u.toNat ≤ 20) → (fillsL us).length ≤ 441 ^ n := by
    intro n
    induction n with
    | zero =>
      intro us hl _
      rw [List.length_eq_zero_iff.mp hl]
      exact Nat.le_refl _
    | succ n ih =>
      intro us hl hu
      obtain ⟨vs, u, rfl⟩ := SrtO.snoc_of (l := us) (by omega)
      have hl' : vs.length = n := by rw [List.length_append] at hl; simpa using hl
      have h1 := ih vs hl' fun x hx => hu x (List.mem_append_left _ hx)
      have h2 : (partsL u.toNat 2).length ≤ 441 := by
        have h3 := partsL_len 2 u.toNat
        have h4 : (u.toNat + 1) ^ 2 ≤ 21 ^ 2 := Nat.pow_le_pow_left (by have := hu u (List.mem_append_right _ (List.mem_singleton.mpr rfl)); omega) 2
        have h5 : (21 : Nat) ^ 2 = 441 := by decide
        omega
      rw [fillsL_snoc, List.length_flatMap, Nat.pow_succ]
      refine Nat.le_trans ?_ (Nat.mul_le_mul_right 441 h1)
      generalize fillsL vs = fs
      induction fs with
      | nil => simp
      | cons x xs ih2 =>
        rw [List.map_cons, List.sum_cons, List.length_cons, List.length_map, Nat.succ_mul]
        omega
  exact key us.length us rfl
section
variable {P : Program} {w : World} {K : PySem.W.Frag} {mg : Str → Option Value} {base : Heap}
def BvR (K : PySem.W.Frag) : Hp → V → Bun → Prop := Tup2 K NatR (VtR K)
instance : Mono (BvR K) := inferInstanceAs (Mono (Tup2 K NatR (VtR K)))
abbrev DueR (K : PySem.W.Frag) : Hp → V → List (List Int) × List Int → Prop := Tup2 K (LstR K (ILst K)) (ILst K)
theorem Own.pubd {F H F1 H1 : Hp} {l l2 : Addr} {acc a2 : List V} (o : Own F H F1 H1 l acc) (o2 : Own F H F1 H1 l2 a2) (hne : l2 ≠ l) : Own F H (upd F1 l (.lst acc)) H1 l2 a2 := ⟨o.fin, by rw [upd_ne hne]; exact o2.f, o2.h, o2.e⟩
theorem range_snoc {α : Type} (f : Nat → α) (i : Nat) : (List.range (i + 1)).map f = (List.range i).map f ++ [f i] := by
  rw [List.range_succ, List.map_append]
  rfl
def sp_law_settles (K : PySem.W.Frag) : Sp := fun vs H Q _ => ∃ (F : Hp) (wv bv : V) (c : LCfg) (bs : List Bun) (lot : Nat), vs = [.int 2, wv, bv, .int (lot : Int)] ∧ Same F H ∧ WorldR K F wv c ∧ LstR K (BvR K) F bv bs ∧ BFew bs ∧ ∀ H', Same H H' → Q (.bl (settlesL c bs lot)) H'
theorem ok_law_settles (T : Txt K mg) : Ok P w K mg base 10 (He.ga K "_law_settles") (sp_law_settles K) := by
  refine Ok.of T.fd_law_settles Txt.b_law_settles sc_law_settles (fun vs H Q E h => ?_) fun cdv A outer s H vs Q E hr h => ?_
  · obtain ⟨_, _, _, _, _, _, rfl, _⟩ := h
    rfl
  obtain ⟨F, wv, bv, c, bs, lot, rfl, s, hw, hbv, few, q⟩ := h
  obtain ⟨wa, ar, lo, hu, rfl, hwt, har, hlo, hhu, cok⟩ := id hw
  obtain ⟨aa, avs, rfl, haa, haav⟩ := id har
  have hal := haav.length
  have ha2 := cok.a2
  have hbl := few.l
  refine ⟨_, (pss_cons (ps_set (i := 4) sc_law_settles.nd rfl (Or.inl rfl) (pe_callB call_lenN (by rfl) T.f_len PySem.boot_len (pa_cons (pe_ix ix_seq (pv 1) pe_int (fun _ _ => rfl)) pa_nil)))
      (pss_cons (ps_par3 (i := 5) (j := 6) (l := 7) (by rfl) sc_law_settles.nd rfl rfl rfl (by decide) (by decide) (by decide) rfl rfl rfl (pa_cons (pe_lst pa_nil) (pa_cons (pe_lst pa_nil) (pa_cons (pe_lst pa_nil) pa_nil))) (by rfl))
      (pss_cons (ps_for PassesOwn.never rfl (pi_range1 (by rfl) T.f_range (pa_cons (pv 4) pa_nil)) (pg_name (i := 8) sc_law_settles.nd rfl (Or.inr rfl)) (pss_cons (ps_set (i := 9) sc_law_settles.nd rfl (Or.inr rfl) (pe_lc rfl sc_law_settles.nd (pi_enum (by rfl) T.f_enumerate (pa_cons (pv 2) pa_nil)) (blkOk_by (own := [("_law_j", 17), ("_law_area_here", 18), ("_law_votes", 19)]) (N := ["_law_hands", "_law_world", "_law_bundles", "_law_lot", "_law_many_here", "_law_mine", "_law_seen", "_law_unseen", "_law_k", "_law_inside", "_law_own", "_law_due", "_law_fillings", "_law_left", "_law_grown", "_law_rows", "_law_later", "_law_j", "_law_area_here", "_law_votes", "_law_hand", "_law_row", "_law_its", "_law_one_here", "_law_other"]) (sc := (defScope s_law_settles)) (by decide +kernel)) (fun _ _ _ _ _ => (pg_tupK (K := K) (n := 2) rfl rfl (pgs_cons (pg_name (i := 17) sc_law_settles.nd rfl (Or.inl rfl)) (pgs_cons (pg_tupK (K := K) (n := 2) rfl rfl (pgs_cons (pg_name (i := 18) sc_law_settles.nd rfl (Or.inl rfl)) (pgs_cons (pg_name (i := 19) sc_law_settles.nd rfl (Or.inl rfl)) pgs_nil))) pgs_nil)))) (fun _ _ _ _ _ => (pts_one (PW.pt (pw_and (pt_cmpR (eq2K (K := K) rfl hr) (pv 18) (pv 8) (nomark _)) (pw_and1 (pt_val (pe_cl (ok_law_in T) (hr.mono (by decide)) (by rfl) T.g_law_in (pa_cons (pv 3) (pa_cons (pv 17) pa_nil))))))))) (fun _ _ _ _ _ => (pv 19))))
      (pss_cons (ps_set (i := 10) sc_law_settles.nd rfl (Or.inr rfl) (pe_lc rfl sc_law_settles.nd (pi_list (pv 2)) (blkOk_by (own := [("_law_area_here", 18), ("_law_votes", 19)]) (N := ["_law_hands", "_law_world", "_law_bundles", "_law_lot", "_law_many_here", "_law_mine", "_law_seen", "_law_unseen", "_law_k", "_law_inside", "_law_own", "_law_due", "_law_fillings", "_law_left", "_law_grown", "_law_rows", "_law_later", "_law_j", "_law_area_here", "_law_votes", "_law_hand", "_law_row", "_law_its", "_law_one_here", "_law_other"]) (sc := (defScope s_law_settles)) (by decide +kernel)) (fun _ _ _ _ _ => (pg_tupK (K := K) (n := 2) rfl rfl (pgs_cons (pg_name (i := 18) sc_law_settles.nd rfl (Or.inl rfl)) (pgs_cons (pg_name (i := 19) sc_law_settles.nd rfl (Or.inl rfl)) pgs_nil)))) (fun _ _ _ _ _ => (pts_one (pt_cmpR (eq2K (K := K) rfl hr) (pv 18) (pv 8) (nomark _)))) (fun _ _ _ _ _ => (pv 19))))
      (pss_cons (ps_expr (pe_bm PySem.F.plainAttrs_list PySem.F.slot_list_append PySem.F.type_list_append mt_append (pv 5) (pa_cons (pe_lc rfl sc_law_settles.nd (pi_range1 (by rfl) T.f_range (pa_cons (pe_op op_add2 (pv 0) pe_int) pa_nil)) (blkOk_by (own := [("_law_hand", 20)]) (N := ["_law_hands", "_law_world", "_law_bundles", "_law_lot", "_law_many_here", "_law_mine", "_law_seen", "_law_unseen", "_law_k", "_law_inside", "_law_own", "_law_due", "_law_fillings", "_law_left", "_law_grown", "_law_rows", "_law_later", "_law_j", "_law_area_here", "_law_votes", "_law_hand", "_law_row", "_law_its", "_law_one_here", "_law_other"]) (sc := (defScope s_law_settles)) (by decide +kernel)) (fun _ _ _ _ _ => (pg_name (i := 20) sc_law_settles.nd rfl (Or.inr rfl))) (fun _ _ _ _ _ => pts_nil) (fun _ _ _ _ _ => (pe_callB (sumK (K := K) rfl rfl) (by rfl) T.f_sum (by decide +kernel) (pa_cons (pe_lc rfl sc_law_settles.nd (listK (K := K) rfl (pv 10)) (blkOk_by (own := [("_law_votes", 19)]) (N := ["_law_hands", "_law_world", "_law_bundles", "_law_lot", "_law_many_here", "_law_mine", "_law_seen", "_law_unseen", "_law_k", "_law_inside", "_law_own", "_law_due", "_law_fillings", "_law_left", "_law_grown", "_law_rows", "_law_later", "_law_j", "_law_area_here", "_law_votes", "_law_hand", "_law_row", "_law_its", "_law_one_here", "_law_other"]) (sc := ({ kind := .function, names := [(PySem.Str.ofString ".0", .local), (PySem.Str.ofString "_law_hand", .cell), (PySem.Str.ofString "sum", .globalImplicit), (PySem.Str.ofString "_law_own", .cell)], isGenerator := false, isCoroutine := false, more := [] } : Scope)) (by decide +kernel)) (fun _ _ _ _ _ => (pg_name (i := 19) sc_law_settles.nd rfl (Or.inl rfl))) (fun _ _ _ _ _ => pts_nil) (fun _ _ _ _ _ => (pe_ix (ixK (K := K) rfl) (pv 19) (pv 20) (fun _ _ => rfl)))) pa_nil)))) pa_nil)))
      (pss_cons (ps_expr (pe_bm PySem.F.plainAttrs_list PySem.F.slot_list_append PySem.F.type_list_append mt_append (pv 6) (pa_cons (pe_lc rfl sc_law_settles.nd (pi_range1 (by rfl) T.f_range (pa_cons (pe_op op_add2 (pv 0) pe_int) pa_nil)) (blkOk_by (own := [("_law_hand", 20)]) (N := ["_law_hands", "_law_world", "_law_bundles", "_law_lot", "_law_many_here", "_law_mine", "_law_seen", "_law_unseen", "_law_k", "_law_inside", "_law_own", "_law_due", "_law_fillings", "_law_left", "_law_grown", "_law_rows", "_law_later", "_law_j", "_law_area_here", "_law_votes", "_law_hand", "_law_row", "_law_its", "_law_one_here", "_law_other"]) (sc := (defScope s_law_settles)) (by decide +kernel)) (fun _ _ _ _ _ => (pg_name (i := 20) sc_law_settles.nd rfl (Or.inr rfl))) (fun _ _ _ _ _ => pts_nil) (fun _ _ _ _ _ => (pe_callB (sumK (K := K) rfl rfl) (by rfl) T.f_sum (by decide +kernel) (pa_cons (pe_lc rfl sc_law_settles.nd (listK (K := K) rfl (pv 9)) (blkOk_by (own := [("_law_votes", 19)]) (N := ["_law_hands", "_law_world", "_law_bundles", "_law_lot", "_law_many_here", "_law_mine", "_law_seen", "_law_unseen", "_law_k", "_law_inside", "_law_own", "_law_due", "_law_fillings", "_law_left", "_law_grown", "_law_rows", "_law_later", "_law_j", "_law_area_here", "_law_votes", "_law_hand", "_law_row", "_law_its", "_law_one_here", "_law_other"]) (sc := ({ kind := .function, names := [(PySem.Str.ofString ".0", .local), (PySem.Str.ofString "_law_hand", .cell), (PySem.Str.ofString "sum", .globalImplicit), (PySem.Str.ofString "_law_inside", .cell)], isGenerator := false, isCoroutine := false, more := [] } : Scope)) (by decide +kernel)) (fun _ _ _ _ _ => (pg_name (i := 19) sc_law_settles.nd rfl (Or.inl rfl))) (fun _ _ _ _ _ => pts_nil) (fun _ _ _ _ _ => (pe_ix (ixK (K := K) rfl) (pv 19) (pv 20) (fun _ _ => rfl)))) pa_nil)))) pa_nil)))
      (pss_one (ps_expr (pe_bm PySem.F.plainAttrs_list PySem.F.slot_list_append PySem.F.type_list_append mt_append (pv 7) (pa_cons (pe_op op_sub (pe_callB (cr_sum rfl) (by rfl) T.f_sum (by decide +kernel) (pa_cons (pe_ix ix_seq (pv 5) (pv 8) (fun _ _ => rfl)) pa_nil)) (pe_callB (cr_sum rfl) (by rfl) T.f_sum (by decide +kernel) (pa_cons (pe_ix ix_seq (pv 6) (pv 8) (fun _ _ => rfl)) pa_nil))) pa_nil)))))))))
      (pss_cons (ps_set (i := 11) sc_law_settles.nd rfl (Or.inl rfl) (pe_slice sl_tup (pe_cl (ok_law_outcome T) (hr.mono (by decide)) (by rfl) T.g_law_outcome (pa_cons (pv 0) (pa_cons (pv 1) (pa_cons (pv 5) pa_nil)))) po_none (po_some pe_int)))
      (pss_cons (ps_set (i := 12) sc_law_settles.nd rfl (Or.inl rfl) (pe_lst (pa_cons (pe_lst pa_nil) pa_nil)))
      (pss_cons (ps_for PassesOwn.never rfl (pi_list (pv 7)) (pg_name (i := 13) sc_law_settles.nd rfl (Or.inl rfl)) (pss_cons (ps_set (i := 14) sc_law_settles.nd rfl (Or.inl rfl) (pe_lst pa_nil))
      (pss_cons (ps_for PassesOwn.never rfl (pi_list (pv 12)) (pg_name (i := 15) sc_law_settles.nd rfl (Or.inr rfl)) (pss_one (ps_set (i := 14) sc_law_settles.nd rfl (Or.inl rfl) (pe_op op_add2 (pv 14) (pe_lc rfl sc_law_settles.nd (pi_list (pe_cl (ok_law_partings T) (hr.mono (by decide)) (by rfl) T.g_law_partings (pa_cons (pv 13) (pa_cons (pe_op op_add2 (pv 0) pe_int) pa_nil)))) (blkOk_by (own := [("_law_row", 21)]) (N := ["_law_hands", "_law_world", "_law_bundles", "_law_lot", "_law_many_here", "_law_mine", "_law_seen", "_law_unseen", "_law_k", "_law_inside", "_law_own", "_law_due", "_law_fillings", "_law_left", "_law_grown", "_law_rows", "_law_later", "_law_j", "_law_area_here", "_law_votes", "_law_hand", "_law_row", "_law_its", "_law_one_here", "_law_other"]) (sc := (defScope s_law_settles)) (by decide +kernel)) (fun _ _ _ _ _ => (pg_name (i := 21) sc_law_settles.nd rfl (Or.inl rfl))) (fun _ _ _ _ _ => pts_nil) (fun _ _ _ _ _ => (pe_op op_add2 (pv 15) (pe_lst (pa_cons (pv 21) pa_nil)))))))))
      (pss_one (ps_set (i := 12) sc_law_settles.nd rfl (Or.inl rfl) (pv 14))))))
      (pss_cons (ps_for PassesOwn.never rfl (pi_list (pv 12)) (pg_name (i := 15) sc_law_settles.nd rfl (Or.inr rfl)) (pss_cons (ps_setLc (i := 16) rfl sc_law_settles.nd rfl rfl (sw_true rfl rfl rfl (by decide +kernel)) (pi_zip (by rfl) T.f_zip (pa_cons (pv 6) (pa_cons (pv 15) pa_nil))) (blkOk_by (own := [("_law_row", 21), ("_law_its", 22)]) (N := ["_law_hands", "_law_world", "_law_bundles", "_law_lot", "_law_many_here", "_law_mine", "_law_seen", "_law_unseen", "_law_k", "_law_inside", "_law_own", "_law_due", "_law_fillings", "_law_left", "_law_grown", "_law_rows", "_law_later", "_law_j", "_law_area_here", "_law_votes", "_law_hand", "_law_row", "_law_its", "_law_one_here", "_law_other"]) (sc := (defScope s_law_settles)) (by decide +kernel)) (fun _ _ _ _ _ => (pg_tupK (K := K) (n := 2) rfl rfl (pgs_cons (pg_name (i := 21) sc_law_settles.nd rfl (Or.inl rfl)) (pgs_cons (pg_name (i := 22) sc_law_settles.nd rfl (Or.inl rfl)) pgs_nil)))) (fun _ _ _ _ _ => pts_nil) (fun _ _ _ _ _ => (pe_lc rfl sc_law_settles.nd (zipK (K := K) rfl (by rfl) T.f_zip (pa_cons (pv 21) (pa_cons (pv 22) pa_nil))) (blkOk_by (own := [("_law_one_here", 23), ("_law_other", 24)]) (N := ["_law_hands", "_law_world", "_law_bundles", "_law_lot", "_law_many_here", "_law_mine", "_law_seen", "_law_unseen", "_law_k", "_law_inside", "_law_own", "_law_due", "_law_fillings", "_law_left", "_law_grown", "_law_rows", "_law_later", "_law_j", "_law_area_here", "_law_votes", "_law_hand", "_law_row", "_law_its", "_law_one_here", "_law_other"]) (sc := ({ kind := .function, names := [(PySem.Str.ofString ".0", .local), (PySem.Str.ofString "_law_row", .local), (PySem.Str.ofString "_law_its", .local), (PySem.Str.ofString "zip", .globalImplicit)], isGenerator := false, isCoroutine := false, more := [] } : Scope)) (by decide +kernel)) (fun _ _ _ _ _ => (pg_tupK (K := K) (n := 2) rfl rfl (pgs_cons (pg_name (i := 23) sc_law_settles.nd rfl (Or.inl rfl)) (pgs_cons (pg_name (i := 24) sc_law_settles.nd rfl (Or.inl rfl)) pgs_nil)))) (fun _ _ _ _ _ => pts_nil) (fun _ _ _ _ _ => (pe_op op_add2 (pv 23) (pv 24))))))
      (pss_one (ps_if (pt_cmpR (op_ne2 hr) (pe_slice sl_tup (pe_cl (ok_law_outcome T) (hr.mono (by decide)) (by rfl) T.g_law_outcome (pa_cons (pv 0) (pa_cons (pv 1) (pa_cons (pv 16) pa_nil)))) po_none (po_some pe_int)) (pv 11) (nomark _)) (pss_one (ps_ret pe_bl)) pss_nil))))
      (pss_one (ps_ret pe_bl))))))))), ?_⟩
  walk_at "st"
  walk_at "rd"
  refine rd_ixT (SqT.of (s _ _ hwt)) rfl ?_
  walk_at "rd"
  refine rd_lenL (s.seq haa) ?_
  walk_at "rd"
  refine ⟨szl (by simp), fun p5 hp5 => ?_⟩
  have o5 : Own F H F (upd H p5 (.lst [])) p5 [] := Own.mk' (Xt.refl s) hp5
  walk_at "rd"
  refine ⟨szl (by simp), fun p6 hp6 => ?_⟩
  obtain ⟨o5, o6, h56⟩ := o5.new2 (a2 := []) hp6
  walk_at "rd"
  refine ⟨szl (by simp), fun p7 hp7 => ?_⟩
  have h67 : p6 ≠ p7 := (o6.new2 (a2 := []) hp7).2.2
  have h57 : p5 ≠ p7 := (o5.new2 (a2 := []) hp7).2.2
  have o6' := (o6.new2 (a2 := []) hp7).1
  obtain ⟨o5, o7, _⟩ := o5.new2 (a2 := []) hp7
  have o6 := o6'
  walk_at "rd"
  refine fo_rng (fun i σ H1 => ∃ (F1 : Hp) (am as : List V) (y8 y9 y10 : Option V), σ = [some (.int 2), some (.ref wa), some bv, some (.int (lot : Int)), some (.int (avs.length : Nat)), some (.ref p5), some (.ref p6), some (.ref p7), y8, y9, y10, none, none, none, none, none, none, none, none, none, none, none, none, none, none] ∧
      Own F H F1 H1 p5 am ∧ Own F H F1 H1 p6 as ∧ Own F H F1 H1 p7 ((unsL i bs lot).map .int) ∧ All2 (VtR K F1) am (shs i bs) ∧ All2 (VtR K F1) as (shs i (pick lot bs))) (by omega)
    ⟨F, [], [], _, _, _, rfl, o5, o6, o7, .nil, .nil⟩ ?_ ?_
  · rintro i σ H1 hi ⟨F1, am, as, y8, y9, y10, rfl, o5, o6, o7, ham, has⟩
    have lam := ham.length
    have las := has.length
    rw [shs_len] at lam las
    have hbv1 := o5.x.mono hbv
    walk_at "rd"
    refine lc_enum (R := BvR K) (VtR K) (fun p : Nat × Bun => decide (p.2.1 = i) && lot.testBit p.1) (fun p => p.2.2) hbv1 o5.x.sub (by omega) (fun j b F2 H2 Tp v hy x hv hT Z Z0 hZ hZ0 => ?_) fun D9 F2 H2 x2 hD9 => ?_
    · obtain ⟨a, v1, v2, rfl, ht, h1, h2⟩ := hv
      obtain rfl : v1 = .int (b.1 : Int) := h1
      have hj : j < bs.length := (List.getElem?_eq_some_iff.mp hy).1
      walk_at "wp"
      have xt : Xt F2 H2 F2 (upd H2 Tp (.tup [.int (j : Nat), .ref a])) := (Xt.refl x.sub).newH hT
      refine rd_tupG (SqT.of upd_same) rfl ?_
      walk_at "rd"
      refine rd_tupG (sm_t xt.sub ht) rfl ?_
      walk_at "rd"
      refine ⟨rfl, ?_⟩
      walk_at "rd"
      by_cases hb : b.1 = i
      · refine ifT (by omega) ?_
        walk_at "rd"
        refine ⟨lot, j, rfl, by omega, ?_⟩
        walk_at "rd"
        cases hbit : lot.testBit j with
        | true =>
          walk_at "rd"
          exact hZ (by simp [hb, hbit]) _ _ _ xt h2
        | false =>
          walk_at "rd"
          exact hZ0 (by simp [hbit]) _ _ xt
      · refine ifF (by omega) ?_
        exact hZ0 (by simp [hb]) _ _ xt
    rw [inside_eq] at hD9
    have o5 := o5.step x2
    have o6 := o6.step x2
    have o7 := o7.step x2
    have ham := ham.imp fun _ _ r => sm_mo x2.ff r
    have has := has.imp fun _ _ r => sm_mo x2.ff r
    walk_at "rd"
    refine lc_list (R := BvR K) (VtR K) (fun b : Bun => decide (b.1 = i)) (fun b => b.2) (x2.mono hbv1) x2.sub (by omega) (fun j b F3 H3 v hy x hv Z Z0 hZ hZ0 => ?_) fun D10 F3 H3 x3 hD10 => ?_
    · obtain ⟨a, v1, v2, rfl, ht, h1, h2⟩ := hv
      obtain rfl : v1 = .int (b.1 : Int) := h1
      walk_at "wp"
      refine rd_tupG (sm_t x.sub ht) rfl ?_
      walk_at "rd"
      refine ⟨rfl, ?_⟩
      walk_at "rd"
      by_cases hb : b.1 = i
      · refine ifT (by omega) ?_
        walk_at "rd"
        exact hZ (by simp [hb]) _ _ _ (Xt.refl x.sub) h2
      · refine ifF (by omega) ?_
        exact hZ0 (by simp [hb]) _ _ (Xt.refl x.sub)
    have o5 := o5.step x3
    have o6 := o6.step x3
    have o7 := o7.step x3
    have ham := ham.imp fun _ _ r => sm_mo x3.ff r
    have has := has.imp fun _ _ r => sm_mo x3.ff r
    have hD9 := x3.mono hD9
    have l9 : (((pick lot bs).filter fun b => decide (b.1 = i)).map (·.2)).length ≤ 10 := by
      rw [List.length_map]
      exact Nat.le_trans (List.length_filter_le _ _) (pick_ok few.ok).1
    have l10 : ((bs.filter fun b => decide (b.1 = i)).map fun b => b.2).length ≤ 10 := by
      rw [List.length_map]
      exact Nat.le_trans (List.length_filter_le _ _) few.ok.1
    generalize hN9 : ((pick lot bs).filter fun b => decide (b.1 = i)).map (·.2) = N9 at hD9 l9
    generalize hN10 : (bs.filter fun b => decide (b.1 = i)).map (fun b => b.2) = N10 at hD10 l10
    have e9 : areaSum (pick lot bs) i = vtot N9 := by rw [← hN9]; rfl
    have e10 : areaSum bs i = vtot N10 := by rw [← hN10]; rfl
    clear hN9 hN10
    walk_at "rd"
    refine ⟨ty_list (SqL.of o5.e), ?_⟩
    walk_at "rd"
    refine lc_rng (K := K) (n := 3) IntR (fun _ => true) (fun i : Nat => sel3 (vtot N10) i) x3.sub (by decide) (fun i F3 H3 hi x Z Z0 hZ _ => ?_) fun D11 F5 H5 x5 hD => ?_
    · walk_at "wp"
      walk_at "rd"
      refine ⟨rfl, ?_⟩
      walk_at "rd"
      refine lc_list (R := VtR K) IntR (fun _ => true) (fun n : Vt => sel3 n i) (x.mono hD10) x.sub (by omega) (fun j n F4 H4 v hy x4 hv Z' Z0' hZ' _ => ?_) fun D4 F4 H4 x4 hD4 => ?_
      · obtain ⟨ln, rfl, hln⟩ := ilst_to hv
        walk_at "wp"
        walk_at "rd"
        refine ⟨rfl, ?_⟩
        walk_at "rd"
        refine rd_ixL (x4.sub.seq hln) (at_sel3 hi) ?_
        exact hZ' rfl _ _ _ (Xt.refl x4.sub) rfl
      · obtain ⟨_, e, hD4⟩ := ilst_to hD4
        cases e
        walk_at "rd"
        refine rd_sum (x4.sub.seq hD4) ?_
        rw [filt_map, vtot_sel N10 i hi]
        exact hZ rfl _ _ _ x4 rfl
    have h11 : VtR K F5 (.ref D11) (areaSum bs i) := by
      rw [filt_map] at hD
      rw [e10]
      exact hD
    have o5 := o5.step x5
    have o6 := o6.step x5
    have o7 := o7.step x5
    have ham := ham.imp fun _ _ r => sm_mo x5.ff r
    have has := has.imp fun _ _ r => sm_mo x5.ff r
    have hD9 := x5.mono hD9
    walk_at "rd"
    refine rd_append o5.e (by omega) ?_
    have o6 := o6.other (o := .lst (am ++ [.ref D11])) o5 h56.symm
    have o7 := o7.other (o := .lst (am ++ [.ref D11])) o5 h57.symm
    have o5 := o5.set (acc' := am ++ [.ref D11])
    have ham := ham.snoc h11
    walk_at "rd"
    refine ⟨ty_list (SqL.of o6.e), ?_⟩
    walk_at "rd"
    refine lc_rng (K := K) (n := 3) IntR (fun _ => true) (fun i : Nat => sel3 (vtot N9) i) o6.x.sub (by decide) (fun i F3 H3 hi x Z Z0 hZ _ => ?_) fun D12 F6 H6 x6 hD => ?_
    · walk_at "wp"
      walk_at "rd"
      refine ⟨rfl, ?_⟩
      walk_at "rd"
      refine lc_list (R := VtR K) IntR (fun _ => true) (fun n : Vt => sel3 n i) (x.mono hD9) x.sub (by omega) (fun j n F4 H4 v hy x4 hv Z' Z0' hZ' _ => ?_) fun D4 F4 H4 x4 hD4 => ?_
      · obtain ⟨ln, rfl, hln⟩ := ilst_to hv
        walk_at "wp"
        walk_at "rd"
        refine ⟨rfl, ?_⟩
        walk_at "rd"
        refine rd_ixL (x4.sub.seq hln) (at_sel3 hi) ?_
        exact hZ' rfl _ _ _ (Xt.refl x4.sub) rfl
      · obtain ⟨_, e, hD4⟩ := ilst_to hD4
        cases e
        walk_at "rd"
        refine rd_sum (x4.sub.seq hD4) ?_
        rw [filt_map, vtot_sel N9 i hi]
        exact hZ rfl _ _ _ x4 rfl
    have h12 : VtR K F6 (.ref D12) (areaSum (pick lot bs) i) := by
      rw [filt_map] at hD
      rw [e9]
      exact hD
    have o5 := o5.step x6
    have o6 := o6.step x6
    have o7 := o7.step x6
    have ham := ham.imp fun _ _ r => sm_mo x6.ff r
    have has := has.imp fun _ _ r => sm_mo x6.ff r
    have h11 := x6.mono h11
    walk_at "rd"
    refine rd_append o6.e (by omega) ?_
    have o5 := o5.other (o := .lst (as ++ [.ref D12])) o6 h56
    have o7 := o7.other (o := .lst (as ++ [.ref D12])) o6 h67.symm
    have o6 := o6.set (acc' := as ++ [.ref D12])
    have has := has.snoc h12
    walk_at "rd"
    refine ⟨ty_list (SqL.of o7.e), ?_⟩
    walk_at "rd"
    obtain ⟨_, e, h11l⟩ := ilst_to h11
    cases e
    obtain ⟨_, e, h12l⟩ := ilst_to h12
    cases e
    refine rd_ixL (v := .ref D11) (SqL.of o5.e) (atI_get2 (by rw [List.getElem?_append_right (by omega), lam, Nat.sub_self]; rfl)) ?_
    walk_at "rd"
    refine rd_sum (o5.x.sub.seq h11l) ?_
    walk_at "rd"
    refine rd_ixL (v := .ref D12) (SqL.of o6.e) (atI_get2 (by rw [List.getElem?_append_right (by omega), las, Nat.sub_self]; rfl)) ?_
    walk_at "rd"
    refine rd_sum (o6.x.sub.seq h12l) ?_
    rw [l_sum, l_sum]
    walk_at "rd"
    have lun : (unsL i bs lot).length = i := by
      unfold unsL
      rw [List.length_map, List.length_range]
    refine rd_append o7.e (by rw [List.length_map, lun]; omega) ?_
    have eun : (unsL i bs lot).map V.int ++ [.int ((areaSum bs i).sum - (areaSum (pick lot bs) i).sum)] = (unsL (i + 1) bs lot).map .int := by
      unfold unsL
      rw [range_snoc, List.map_append]
      rfl
    rw [eun]
    refine ⟨F6, _, _, _, _, _, rfl, o5.other o7 h57, o6.other o7 h67, o7.set, ?_, ?_⟩
    · unfold shs at ham ⊢
      rw [range_snoc]
      exact ham
    · unfold shs at has ⊢
      rw [range_snoc]
      exact has
  · rintro σ H1 ⟨F1, am, as, y8, y9, y10, rfl, o5, o6, o7, ham, has⟩
    rw [hal] at ham has o7
    have q6 := o5.pubd o6 h56.symm
    have q7 := o6.pubd o7 h67.symm
    have r7 := q6.pubd (o5.pubd o7 h57.symm) h67.symm
    have xf := r7.fin
    have hun : ILst K (upd (upd (upd F1 p5 (.lst am)) p6 (.lst as)) p7 (.lst ((unsL c.areas.length bs lot).map .int))) (.ref p7) (unsL c.areas.length bs lot) := ilst_of (SqL.of upd_same)
    have hmi : LstR K (VtR K) (upd (upd (upd F1 p5 (.lst am)) p6 (.lst as)) p7 (.lst ((unsL c.areas.length bs lot).map .int))) (.ref p5) (shs c.areas.length bs) := ⟨p5, am, rfl, SqL.of (q6.ff.trans r7.ff |> fun s => s _ _ upd_same), ham.imp fun _ _ r => sm_mo (o5.ff.trans (q6.ff.trans r7.ff)) r⟩
    have hse : LstR K (VtR K) (upd (upd (upd F1 p5 (.lst am)) p6 (.lst as)) p7 (.lst ((unsL c.areas.length bs lot).map .int))) (.ref p6) (shs c.areas.length (pick lot bs)) := ⟨p6, as, rfl, SqL.of (r7.ff _ _ upd_same), has.imp fun _ _ r => sm_mo (o5.ff.trans (q6.ff.trans r7.ff)) r⟩
    generalize upd (upd (upd F1 p5 (.lst am)) p6 (.lst as)) p7 (.lst ((unsL c.areas.length bs lot).map .int)) = F2 at xf hun hmi hse
    clear o5 o6 o7 q6 q7 r7 ham has
    have hmine : ∀ n ∈ shs c.areas.length bs, VtOk n := fun n hn => by
      unfold shs at hn
      obtain ⟨k, _, rfl⟩ := List.mem_map.mp hn
      exact (areaSum_ok few.ok k).1
    have hw2 : WorldR K F2 (.ref wa) c := xf.mono hw
    walk_at "rd"
    refine ⟨F2, .ref wa, .ref p5, c, _, rfl, xf.sub, hw2, hmi, shs_len _ _, hmine, shs_vtot_ok ha2 few.ok, fun ud F3 H3 x3 hud => ?_⟩
    obtain ⟨da, ds, de, dh, rfl, hda, hds, hde⟩ := hud
    walk_at "rd"
    refine ⟨da, _, rfl, SqT.of (x3.sub _ _ hda), (show ¬(HT.sIx 3 0 none = 0 ∧ HT.sIx 3 3 (some 2) = 3) by decide), fun pd hpd => ?_⟩
    rw [show cutV [ds, de, dh] none (some 2) = [ds, de] from rfl]
    have x4 := x3.new (o := .tup [ds, de]) hpd
    have s4 := same_new (o := .tup [ds, de]) (x3.sub.free hpd)
    have hdue : DueR K (upd F3 pd (.tup [ds, de])) (.ref pd) (outL c (shs c.areas.length bs)) := ⟨pd, ds, de, rfl, SqT.of upd_same, sm_mo s4 hds, sm_mo s4 hde⟩
    have xf4 := xf.trans x4
    have hun := x4.mono hun
    have hse := x4.mono hse
    have hw4 := x4.mono hw2
    generalize upd F3 pd (.tup [ds, de]) = F4 at x4 hdue xf4 hun hse hw4
    generalize upd H3 pd (.tup [ds, de]) = H4 at x4 xf4 ⊢
    clear x3 s4
    walk_at "rd"
    refine ⟨szl (by simp), fun pe hpe => ?_⟩
    have x5 := (Xt.refl x4.sub).new (o := .lst []) hpe
    walk_at "rd"
    refine ⟨szl (by simp), fun pf hpf => ?_⟩
    have x6 := x5.new (o := .lst [.ref pe]) hpf
    have hfi : LstX (LstX (LstX IntR)) (upd (upd F4 pe (.lst [])) pf (.lst [.ref pe])) (.ref pf) (fillsL []) := ⟨pf, _, rfl, upd_same, .cons ⟨pe, [], rfl, (same_new (x5.sub.free hpf)) _ _ upd_same, .nil⟩ .nil⟩
    generalize upd (upd F4 pe (.lst [])) pf (.lst [.ref pe]) = F6 at x6 hfi
    generalize upd (upd H4 pe (.lst [])) pf (.lst [.ref pe]) = H6 at x6 ⊢
    have hun6 := x6.mono hun
    have hub : ∀ u ∈ unsL c.areas.length bs lot, 0 ≤ u ∧ u ≤ 20 := fun u hu => by
      unfold unsL at hu
      obtain ⟨k, _, rfl⟩ := List.mem_map.mp hu
      have h1 := few.area k
      have h2 := areaSum_sub (pick_sublist lot bs) few.s k
      have h3 := vt_sum0 (areaSum_ok (pick_ok (lot := lot) few.ok) k).1
      unfold Vt.sum at *
      constructor <;> omega
    have hul : (unsL c.areas.length bs lot).length = c.areas.length := by
      unfold unsL
      rw [List.length_map, List.length_range]
    have hflen : ∀ i, i ≤ 1 → (fillsL ((unsL c.areas.length bs lot).take i)).length ≤ 441 := fun i hi => by
      have h1 := fills_len ((unsL c.areas.length bs lot).take i) fun u hu => by
        have := hub u (List.mem_of_mem_take hu)
        omega
      have h2 : 441 ^ ((unsL c.areas.length bs lot).take i).length ≤ 441 ^ 1 := Nat.pow_le_pow_right (by decide) (by rw [List.length_take]; omega)
      have h3 : (441 : Nat) ^ 1 = 441 := by decide
      omega
    generalize hun0 : unsL c.areas.length bs lot = us at *
    walk_at "rd"
    refine fo_list (R := IntR) (F := F6) (fun i σ F7 H7 => ∃ (lf : Addr) (y8 y9 y10 y13 y14 y15 : Option V), σ = [some (.int 2), some (.ref wa), some bv, some (.int (lot : Int)), some (.int (avs.length : Nat)), some (.ref p5), some (.ref p6), some (.ref p7), y8, y9, y10, some (.ref pd), some (.ref lf), y13, y14, y15, none, none, none, none, none, none, none, none, none] ∧
        Xt F6 H6 F7 H7 ∧ LstX (LstX (LstX IntR)) F7 (.ref lf) (fillsL (us.take i)) ∧ i ≤ 2) hun6
      ⟨pf, _, _, _, _, _, _, rfl, Xt.refl x6.sub, hfi, by decide⟩ (fun i σ F7 H7 ⟨_, _, _, _, _, _, _, _, x, _⟩ => ⟨x.ff, x.sub⟩) ?_ ?_
    · rintro i u vu σ F7 H7 hy hvu ⟨lf, y8, y9, y10, y13, y14, y15, rfl, x7, hlf, hi2⟩
      obtain rfl : vu = .int u := hvu
      have hi : i < us.length := (List.getElem?_eq_some_iff.mp hy).1
      have hu2 := hub u (List.mem_of_getElem? hy)
      have hrl : ∀ rows ∈ fillsL (us.take i), rows.length = i := fun rows h => by
        rw [((fills_mem _ _).mp h).length, List.length_take]
        omega
      have hfl := hflen i (by omega)
      obtain ⟨un, rfl⟩ := Int.eq_ofNat_of_zero_le hu2.1
      have hpl : (partsL un 2).length ≤ 441 := by
        have h3 := partsL_len 2 un
        have h4 : (un + 1) ^ 2 ≤ 21 ^ 2 := Nat.pow_le_pow_left (by omega) 2
        have h5 : (21 : Nat) ^ 2 = 441 := by decide
        omega
      have efs : fillsL (us.take (i + 1)) = (fillsL (us.take i)).flatMap fun rows => (partsL un 2).map fun row => rows ++ [row] := by
        rw [take_snoc hy, fillsL_snoc, Int.toNat_natCast]
      generalize fillsL (us.take i) = fs at hlf hrl hfl efs
      walk_at "rd"
      refine ⟨szl (by simp), fun pg hpg => ?_⟩
      have x8 := (Xt.refl x7.sub).new (o := .lst []) hpg
      have hg0 : LstX (LstX (LstX IntR)) (upd F7 pg (.lst [])) (.ref pg) ((fs.take 0).flatMap fun rows => (partsL un 2).map fun row => rows ++ [row]) := ⟨pg, [], rfl, upd_same, .nil⟩
      have hlf8 := x8.mono hlf
      generalize upd F7 pg (.lst []) = F8 at x8 hg0 hlf8
      generalize upd H7 pg (.lst []) = H8 at x8 ⊢
      walk_at "rd"
      refine fo_list (R := LstX (LstX IntR)) (F := F8) (fun j σ F9 H9 => ∃ (lg : Addr) (y8 y9 y10 y15 : Option V), σ = [some (.int 2), some (.ref wa), some bv, some (.int (lot : Int)), some (.int (avs.length : Nat)), some (.ref p5), some (.ref p6), some (.ref p7), y8, y9, y10, some (.ref pd), some (.ref lf), some (.int (un : Int)), some (.ref lg), y15, none, none, none, none, none, none, none, none, none] ∧
          Xt F8 H8 F9 H9 ∧ LstX (LstX (LstX IntR)) F9 (.ref lg) ((fs.take j).flatMap fun rows => (partsL un 2).map fun row => rows ++ [row]) ∧ ((fs.take j).flatMap fun rows => (partsL un 2).map fun row => rows ++ [row]).length ≤ 441 * j) hlf8.lst
        ⟨pg, _, _, _, _, rfl, Xt.refl x8.sub, hg0, by simp⟩ (fun j σ F9 H9 ⟨_, _, _, _, _, _, x, _⟩ => ⟨x.ff, x.sub⟩) ?_ ?_
      · rintro j rows vr σ F9 H9 hyr hvr ⟨lg, y8, y9, y10, y15, rfl, x9, hlg, hlgl⟩
        have hj : j < fs.length := (List.getElem?_eq_some_iff.mp hyr).1
        have hrl' := hrl rows (List.mem_of_getElem? hyr)
        obtain ⟨ra, rvs, rfl, hra, hrav⟩ := id hvr
        have lra := hrav.length
        walk_at "rd"
        refine ⟨F9, un, rfl, x9.sub, by omega, fun up F10 H10 x10 hup => ?_⟩
        refine lc_listX (R := LstX IntR) (K := K) (LstX (LstX IntR)) (fun _ => true) (fun row : List Int => rows ++ [row]) hup.lst x10.sub (by omega) (fun k row F11 H11 v hy x hv Z Z0 hZ _ => ?_) fun D F11 H11 x11 hD => ?_
        · obtain ⟨va, vvs, rfl, hva, hvav⟩ := id hv
          walk_at "wp"
          walk_at "rd"
          refine ⟨rfl, ?_⟩
          walk_at "rd"
          refine ⟨szl (by simp), fun ph hph => ?_⟩
          have x12 := (Xt.refl x.sub).newH (o := .lst [.ref va]) hph
          refine rd_cat (x12.fH _ _ ((x10.trans x).ff _ _ hra)) upd_same (szl (by simp; omega)) fun pi hpi => ?_
          have x13 := x12.new (o := .lst (rvs ++ [.ref va])) hpi
          have s13 := same_new (o := .lst (rvs ++ [.ref va])) (x12.sub.free hpi)
          refine hZ rfl _ _ _ x13 ⟨pi, _, rfl, upd_same, ?_⟩
          exact (hrav.imp fun _ _ r => sm_mo ((x10.trans x).ff.trans s13) r).snoc (sm_mo s13 hv)
        · rw [filtT] at hD
          obtain ⟨la, lvs, el, hla, hlva⟩ := hlg
          cases el
          obtain ⟨dd, dvs, ed, hdd, hddv⟩ := hD
          cases ed
          have n1 := hlva.length
          have n2 := hddv.length
          rw [List.length_map] at n2
          walk_at "rd"
          refine rd_cat ((x10.trans x11).hh _ _ (x9.sub _ _ hla)) (x11.sub _ _ hdd) (szL (by rw [n1, n2]; omega)) fun pk hpk => ?_
          walk_at "rd"
          have x14 := (x9.trans (x10.trans x11)).new (o := .lst (lvs ++ dvs)) hpk
          have s14 := same_new (o := .lst (lvs ++ dvs)) (x11.sub.free hpk)
          refine ⟨_, pk, _, _, _, _, rfl, x14, ?_, ?_⟩
          · rw [take_snoc hyr, List.flatMap_append, List.flatMap_singleton]
            exact ⟨pk, _, rfl, upd_same, (hlva.imp fun _ _ r => sm_mo ((x10.trans x11).ff.trans s14) r).append (hddv.imp fun _ _ r => sm_mo s14 r)⟩
          · rw [take_snoc hyr, List.flatMap_append, List.flatMap_singleton, List.length_append, List.length_map]
            omega
      · rintro σ F9 H9 ⟨lg, y8, y9, y10, y15, rfl, x9, hlg, hlgl⟩
        rw [List.take_length] at hlg
        walk_at "rd"
        refine ⟨F9, lg, _, _, _, _, _, _, rfl, x7.trans (x8.trans x9), ?_, by omega⟩
        rw [efs]
        exact hlg
    · rintro σ F7 H7 ⟨lf, y8, y9, y10, y13, y14, y15, rfl, x7, hlf, hi2⟩
      rw [List.take_length] at hlf
      have hrow : ∀ rows ∈ fillsL us, All2 (fun r u => r ∈ partsL (Int.toNat u) 2) rows us := fun rows h => (fills_mem _ _).mp h
      have q2 : ∀ b, ((fillsL us).all fun rows => decide (outL c (laterL (shs c.areas.length (pick lot bs)) rows) = outL c (shs c.areas.length bs))) = b → ∀ H', Same H7 H' → Q (.bl b) H' := fun b e H' s' => by
        have := q H' ((xf4.hh.trans (x6.trans x7).hh).trans s')
        unfold settlesL at this
        rw [hun0, e] at this
        exact this
      have hse7 := (x6.trans x7).mono hse
      have hdue7 := (x6.trans x7).mono hdue
      have hw7 := (x6.trans x7).mono hw4
      generalize fillsL us = fs at hlf hrow q2
      walk_at "rd"
      refine fo_list (R := LstX (LstX IntR)) (F := F7) (fun j σ F9 H9 => ∃ (y8 y9 y10 y13 y14 y15 y16 : Option V), σ = [some (.int 2), some (.ref wa), some bv, some (.int (lot : Int)), some (.int (avs.length : Nat)), some (.ref p5), some (.ref p6), some (.ref p7), y8, y9, y10, some (.ref pd), some (.ref lf), y13, y14, y15, y16, none, none, none, none, none, none, none, none] ∧
          Xt F7 H7 F9 H9 ∧ ∀ k < j, ∀ rows, fs[k]? = some rows → decide (outL c (laterL (shs c.areas.length (pick lot bs)) rows) = outL c (shs c.areas.length bs)) = true) hlf.lst
        ⟨_, _, _, _, _, _, _, rfl, Xt.refl x7.sub, fun k hk => absurd hk (Nat.not_lt_zero k)⟩ (fun j σ F9 H9 ⟨_, _, _, _, _, _, _, _, x, _⟩ => ⟨x.ff, x.sub⟩) ?_ ?_
      · rintro j rows vr σ F9 H9 hyr hvr ⟨y8, y9, y10, y13, y14, y15, y16, rfl, x9, hpre⟩
        have hmem := List.mem_of_getElem? hyr
        have hro := hrow rows hmem
        have lro : rows.length = c.areas.length := by rw [hro.length, hul]
        obtain ⟨ra, rvs, rfl, hra, hrav⟩ := id hvr
        walk_at "rd"
        refine lc_zip (R := VtR K) (R' := LstX IntR) (VtR K) (fun _ => true) (fun p : Vt × List Int => vadd p.1 (vOf p.2)) (x9.mono hse7) ⟨ra, rvs, rfl, SqL.of hra, hrav⟩ x9.sub (by rw [shs_len]; omega) (fun k n row F10 H10 Tp v u hn hrw x rv ru nT Z Z0 hZ _ => ?_) fun D F10 H10 x10 hD => ?_
        · obtain ⟨uu, huu, hpart⟩ := hro.getL hrw
          obtain ⟨_, _, _, _, _, el⟩ := parts3 hpart
          obtain ⟨ln, rfl, hln⟩ := ilst_to rv
          obtain ⟨ua, uvs, rfl, hua, huav⟩ := ru
          walk_at "wp"
          have xt : Xt F10 H10 F10 (upd H10 Tp (.tup [.ref ln, .ref ua])) := (Xt.refl x.sub).newH nT
          refine rd_tupG (SqT.of upd_same) rfl ?_
          walk_at "rd"
          refine ⟨rfl, ?_⟩
          walk_at "rd"
          refine lc_zip (R := IntR) (R' := IntR) (K := K) IntR (fun _ => true) (fun p : Int × Int => p.1 + p.2) (ilst_of hln) ⟨ua, uvs, rfl, SqL.of hua, huav⟩ xt.sub (by show 3 ≤ 1000; decide) (fun a b d F11 H11 Tq va vb ha hb xx ra rb nTq Z' Z0' hZ' _ => ?_) fun D2 F11 H11 x11 hD2 => ?_
          · obtain rfl : va = .int b := ra
            obtain rfl : vb = .int d := rb
            walk_at "wp"
            refine rd_tupG (SqT.of upd_same) rfl ?_
            walk_at "rd"
            refine ⟨rfl, ?_⟩
            walk_at "rd"
            exact hZ' rfl _ _ _ ((Xt.refl xx.sub).newH nTq) rfl
          · refine hZ rfl _ _ _ (xt.trans x11) ?_
            rw [filtT] at hD2
            rw [← el] at hD2
            exact hD2
        · rw [filtT] at hD
          have hD : LstR K (VtR K) F10 (.ref D) (laterL (shs c.areas.length (pick lot bs)) rows) := hD
          have hll : (laterL (shs c.areas.length (pick lot bs)) rows).length = c.areas.length := by
            unfold laterL
            rw [List.length_map, List.length_zip, shs_len, lro]
            exact Nat.min_self _
          have hlok : ∀ n ∈ laterL (shs c.areas.length (pick lot bs)) rows, 0 ≤ n.a ∧ 0 ≤ n.b ∧ 0 ≤ n.i ∧ n.sum ≤ 132 := fun n hn => by
            unfold laterL at hn
            obtain ⟨p, hp, rfl⟩ := List.mem_map.mp hn
            obtain ⟨hp1, hp2⟩ := List.of_mem_zip hp
            unfold shs at hp1
            obtain ⟨k, _, hk⟩ := List.mem_map.mp hp1
            have h1 := areaSum_ok (pick_ok (lot := lot) few.ok) k
            rw [hk] at h1
            obtain ⟨k2, hk2⟩ := List.mem_iff_getElem?.mp hp2
            obtain ⟨uu, huu, hpart⟩ := hro.getL hk2
            obtain ⟨_, b1, b2, b3, b4, _⟩ := parts3 hpart
            have := hub uu (List.mem_of_getElem? huu)
            have a0 := h1.1.a0; have a1 := h1.1.b0; have a2 := h1.1.i0; have a3 := h1.2
            rw [vadd_sum]
            simp only [vadd]
            omega
          have hvt : VtOk (vtot (laterL (shs c.areas.length (pick lot bs)) rows)) := by
            have h3 : c.areas.length = 1 ∨ c.areas.length = 2 := by have := cok.a1; omega
            rw [← hll] at h3
            generalize laterL (shs c.areas.length (pick lot bs)) rows = L at h3 hlok
            rcases h3 with h3 | h3
            · match L, h3 with
              | [x], _ =>
                have := hlok x (by simp)
                refine ⟨?_, ?_, ?_, ?_⟩ <;> simp only [vtot, List.foldl_cons, List.foldl_nil, vadd, Vt.sum] at * <;> omega
            · match L, h3 with
              | [x, y], _ =>
                have := hlok x (by simp)
                have := hlok y (by simp)
                refine ⟨?_, ?_, ?_, ?_⟩ <;> simp only [vtot, List.foldl_cons, List.foldl_nil, vadd, Vt.sum] at * <;> omega
          have x910 := x9.trans x10
          walk_at "rd"
          refine ⟨F10, .ref wa, .ref D, c, _, rfl, x10.sub, x910.mono hw7, hD, hll, fun n hn => ⟨(hlok n hn).1, (hlok n hn).2.1, (hlok n hn).2.2.1, by have := (hlok n hn).2.2.2; omega⟩, hvt, fun uo F11 H11 x11 huo => ?_⟩
          obtain ⟨oa, os, oe, oh, rfl, hoa, hos, hoe⟩ := huo
          walk_at "rd"
          refine ⟨oa, _, rfl, SqT.of (x11.sub _ _ hoa), (show ¬(HT.sIx 3 0 none = 0 ∧ HT.sIx 3 3 (some 2) = 3) by decide), fun pp hpp => ?_⟩
          rw [show cutV [os, oe, oh] none (some 2) = [os, oe] from rfl]
          have x12 := (x910.trans x11).new (o := .tup [os, oe]) hpp
          have s12 := same_new (o := .tup [os, oe]) (x11.sub.free hpp)
          have hout : DueR K (upd F11 pp (.tup [os, oe])) (.ref pp) (outL c (laterL (shs c.areas.length (pick lot bs)) rows)) := ⟨pp, os, oe, rfl, SqT.of upd_same, sm_mo s12 hos, sm_mo s12 hoe⟩
          walk_at "rd"
          refine rd_neD (dat_int.lst.lst.tup2 dat_int.lst) (by decide) (sm_mo x12.sub hout) (sm_mo x12.fH hdue7) ?_
          walk_at "rd"
          by_cases hq : outL c (laterL (shs c.areas.length (pick lot bs)) rows) = outL c (shs c.areas.length bs)
          · refine ifNF hq ?_
            walk_at "rd"
            refine ⟨_, _, _, _, _, _, _, _, rfl, x12, fun k hk rows' hk' => ?_⟩
            by_cases hkj : k = j
            · subst hkj
              rw [hyr] at hk'
              cases hk'
              exact decide_eq_true hq
            · exact hpre k (by omega) rows' hk'
          · refine ifNT hq ?_
            walk_at "rd"
            exact q2 false (List.all_eq_false.mpr ⟨rows, hmem, by rw [decide_eq_false hq]; exact Bool.false_ne_true⟩) _ x12.hh
      · rintro σ F9 H9 ⟨y8, y9, y10, y13, y14, y15, y16, rfl, x9, hpre⟩
        walk_at "rd"
        refine q2 true (List.all_eq_true.mpr fun rows hr => ?_) _ x9.hh
        obtain ⟨k, hk⟩ := List.mem_iff_getElem?.mp hr
        exact hpre k (List.getElem?_eq_some_iff.mp hk).1 rows hk
end
end Wp


set_option Elab.async false
set_option linter.all false
set_option maxRecDepth 100000
set_option maxHeartbeats 4000000
namespace Wp
open PySem PySem.Spec PyProof.Rows L2
local macro_rules | `(tactic| walk_at "rd") => `(tactic| repeat (first
  | ((with_reducible apply rd_var); · exact rfl)
  | with_reducible refine rd_c ?_ | with_reducible refine rd_op ?_ | with_reducible refine rd_un ?_ | with_reducible refine rd_test ?_ | with_reducible refine rd_B ?_ | with_reducible refine rd_bl ?_
  | with_reducible refine rd_and ?_ | with_reducible refine rd_or ?_ | with_reducible refine rd_not ?_ | with_reducible refine rd_andV ?_ | with_reducible refine rd_orV ?_ | with_reducible refine rd_notV ?_ | with_reducible refine rd_ifE ?_
  | with_reducible refine rd_seq ?_ | with_reducible refine rd_asg ?_ | ((with_reducible apply rd_name); · (simp only [List.set_cons_zero, List.set_cons_succ]; exact rfl)) | with_reducible refine rd_ret ?_ | with_reducible refine rd_drop ?_ | with_reducible refine rd_if ?_ | with_reducible refine rd_next ?_ | with_reducible refine rd_break ?_ | with_reducible refine rd_cont ?_
  | with_reducible refine rd_cl ?_ | with_reducible refine rd_cb ?_ | with_reducible refine rd_mk ?_ | with_reducible refine rd_cons ?_ | with_reducible refine rd_nil ?_ | with_reducible refine rd_tup ?_ | with_reducible refine rd_lst ?_ | with_reducible refine rd_at ?_ | with_reducible refine rd_gAt ?_
  | with_reducible refine rd_isN ?_ | with_reducible refine rd_notN ?_ | with_reducible refine rd_abs ?_ | with_reducible refine rd_max ?_ | with_reducible refine rd_int ?_ | with_reducible refine rd_intB ?_ | with_reducible refine rd_consG ?_ | with_reducible refine rd_nilG ?_ | with_reducible refine rd_ipI ?_ | ((with_reducible apply rd_aug); · exact rfl)
  | with_reducible refine rd_par ?_ | with_reducible refine rd_par3 ?_ | ((with_reducible apply rd_parQ); · (simp only [List.set_cons_zero, List.set_cons_succ]; exact rfl)) | ((with_reducible apply rd_par3Q); · (simp only [List.set_cons_zero, List.set_cons_succ]; exact rfl))
  | with_reducible refine rd_yes ?_ | with_reducible refine rd_chain ?_ | with_reducible refine rd_bm ?_ | with_reducible refine rd_bm0 ?_ | with_reducible refine rd_me ?_ | with_reducible refine rd_augS ?_ | with_reducible refine rd_subG ?_ | with_reducible refine rd_forR ?_ | with_reducible refine rd_sl ?_ | with_reducible refine rd_part ?_ | with_reducible refine rd_partQ ?_ | with_reducible refine rd_noPart ?_ | with_reducible refine rd_lstRg ?_ | with_reducible refine rd_forL ?_ | with_reducible refine rd_forE ?_ | with_reducible refine rd_forZ ?_ | with_reducible refine rd_lcL ?_ | with_reducible refine rd_lcR ?_ | with_reducible refine rd_lcE ?_ | with_reducible refine rd_lcZ ?_ | with_reducible refine rd_while ?_
  | with_reducible refine iteT ?_ | with_reducible refine iteF ?_ | with_reducible refine ifNotT ?_ | with_reducible refine ifNotF ?_ | with_reducible refine rd_I0 ?_ | with_reducible refine rd_U ?_ | with_reducible refine rd_add ?_ | with_reducible refine rd_eqI ?_ | with_reducible refine rd_neI ?_ | with_reducible refine rd_eqB ?_))
local macro_rules | `(tactic| walk_at "st") => `(tactic| (intro σ hσ; simp only [L2.start, List.map_cons, List.map_nil, List.length_cons, List.length_nil, List.reduceReplicate, List.replicate_zero, List.append_nil, Nat.reduceAdd, Nat.reduceSub, List.cons_append, List.nil_append] at hσ; subst hσ; try dsimp only [cxOf, Cx.nox, Cx.wish]))
local macro_rules | `(tactic| walk_at "wp") => `(tactic| (simp only [List.map_cons, List.map_nil, wipe, List.set_cons_zero, List.set_cons_succ]))
section
variable {P : Program} {w : World} {K : PySem.W.Frag} {mg : Str → Option Value} {base : Heap}
theorem inV_true (bs : List Bool) : inV (.bl true) (bs.map V.bl) = bs.any id := by
  unfold inV
  rw [List.any_map]
  congr 1
  funext b
  cases b <;> simp [eqV]
theorem rd_trueIn {neg : Bool} {H F : Hp} {Q : VK} {v : V} {bs : List Bool} (h : LstR K BoolR F v bs) (s : Same F H) (q : Q (.bl (if neg then !bs.any id else bs.any id)) H) : rIn K neg (.bl true) v H Q := by
  obtain ⟨a, vs, rfl, hs, ha⟩ := h
  have e := all2_bool ha
  subst e
  refine ⟨a, _, rfl, .inl (s.seq hs), rfl, ?_, ?_⟩
  · rw [List.all_map]
    exact List.all_eq_true.mpr fun _ _ => rfl
  · rw [inV_true]
    exact q
theorem dat_nat : Dat K NatR (fun n : Nat => PyData.int (n : Int)) 0 := ⟨fun {F v x} h => by
  rw [show v = .int (x : Int) from h]
  exact .int _, fun x y => by
    rw [eqv_int]
    exact decide_eq_decide.mpr (by omega), fun x => by rw [PyData.canLay0], fun x => by rw [PyData.depth]; exact Nat.le_refl _⟩
def lessB (a b : Nat) : Bool := !decide (a = b) && decide (a &&& b = a)
def minP (S : List Nat) : List Nat := S.filter fun l => !(S.any fun o => lessB o l)
def maxP (S : List Nat) : List Nat := S.filter fun l => !(S.any fun o => lessB l o)
def goodP (n : Nat) (D : Nat → Bool) : List Nat := (List.range (2 ^ n)).filter D
def badP (n : Nat) (D : Nat → Bool) : List Nat := (List.range (2 ^ n)).filter fun l => !D l
def sp_law_lots_right (K : PySem.W.Frag) : Sp := fun vs H Q _ => ∃ (F : Hp) (v1 v2 v3 : V) (n must : Nat) (D : Nat → Bool) (ls ms : List Nat), vs = [v1, v2, v3, .int (must : Int)] ∧ Same F H ∧ n ≤ 4 ∧ LstR K BoolR F v1 ((List.range (2 ^ n)).map D) ∧ Nls K F v2 ls ∧ Nls K F v3 ms ∧
  ls = minP (goodP n D) ∧ ms = maxP (badP n D) ∧ (∀ o ∈ ls, ∀ l ∈ ms, o &&& l ≠ o) ∧ (∀ k < n, must.testBit k ≠ D (2 ^ n - 1 - 2 ^ k)) ∧ ∀ H', Same H H' → Q (.bl true) H'
theorem ok_law_lots_right (T : Txt K mg) : Ok P w K mg base 2 (He.ga K "_law_lots_right") (sp_law_lots_right K) := by
  refine Ok.of T.fd_law_lots_right Txt.b_law_lots_right sc_law_lots_right (fun vs H Q E h => ?_) fun cdv A outer s H vs Q E hr h => ?_
  · obtain ⟨_, _, _, _, _, _, _, _, _, rfl, _⟩ := h
    rfl
  obtain ⟨F, v1, v2, v3, n, must, D, ls, ms, rfl, s, hn, h1, h2, h3, els, ems, hout, hbit, q⟩ := h
  have hp16 : 2 ^ n ≤ 16 := Nat.le_trans (Nat.pow_le_pow_right (by decide) hn) (by decide)
  have hp0 : 0 < 2 ^ n := Nat.pos_of_ne_zero (by simp)
  obtain ⟨pd, dvs, rfl, hpd, hdv⟩ := id h1
  have hdl := hdv.length
  rw [List.length_map, List.length_range] at hdl
  have edv := all2_bool hdv
  subst edv
  have hat : ∀ l : Nat, l < 2 ^ n → (((List.range (2 ^ n)).map D).map V.bl)[l]? = some (.bl (D l)) := fun l hl => by simp [hl]
  refine ⟨_, (pss_cons (ps_set (i := 4) sc_law_lots_right.nd rfl (Or.inl rfl) (pe_listRg rfl (by rfl) T.f_list (prg_1 (by rfl) T.f_range (pe_callB call_lenN (by rfl) T.f_len PySem.boot_len (pa_cons (pv 0) pa_nil)))))
      (pss_cons (ps_asg (pe_tup (pa_cons (pe_lc rfl sc_law_lots_right.nd (pi_list (pv 4)) (blkOk_by (own := [("_law_lot", 9)]) (N := ["_law_due", "_law_least", "_law_most", "_law_must", "_law_lots", "_law_good", "_law_bad", "_law_one_here", "_law_k", "_law_lot"]) (sc := (defScope s_law_lots_right)) (by decide +kernel)) (fun _ _ _ _ _ => (pg_name (i := 9) sc_law_lots_right.nd rfl (Or.inl rfl))) (fun _ _ _ _ _ => (pts_one (pt_val (pe_ix (ixK (K := K) rfl) (pv 0) (pv 9) (fun _ _ => rfl))))) (fun _ _ _ _ _ => (pv 9))) (pa_cons (pe_lc rfl sc_law_lots_right.nd (pi_list (pv 4)) (blkOk_by (own := [("_law_lot", 9)]) (N := ["_law_due", "_law_least", "_law_most", "_law_must", "_law_lots", "_law_good", "_law_bad", "_law_one_here", "_law_k", "_law_lot"]) (sc := (defScope s_law_lots_right)) (by decide +kernel)) (fun _ _ _ _ _ => (pg_name (i := 9) sc_law_lots_right.nd rfl (Or.inl rfl))) (fun _ _ _ _ _ => (pts_one (pt_not (pt_val (pe_ix (ixK (K := K) rfl) (pv 0) (pv 9) (fun _ _ => rfl)))))) (fun _ _ _ _ _ => (pv 9))) pa_nil))) (pg_tup rfl (pgs_cons (pg_name (i := 5) sc_law_lots_right.nd rfl (Or.inr rfl)) (pgs_cons (pg_name (i := 6) sc_law_lots_right.nd rfl (Or.inr rfl)) pgs_nil))))
      (pss_cons (ps_if (pt_cmpR (op_ne2 hr) (pv 1) (pe_lc rfl sc_law_lots_right.nd (pi_list (pv 5)) (blkOk_by (own := [("_law_lot", 9)]) (N := ["_law_due", "_law_least", "_law_most", "_law_must", "_law_lots", "_law_good", "_law_bad", "_law_one_here", "_law_k", "_law_lot"]) (sc := (defScope s_law_lots_right)) (by decide +kernel)) (fun _ _ _ _ _ => (pg_name (i := 9) sc_law_lots_right.nd rfl (Or.inr rfl))) (fun _ _ _ _ _ => (pts_one (pt_cmpR (notInK (K := K) rfl) pe_bl (pe_lc rfl sc_law_lots_right.nd (listK (K := K) rfl (pv 5)) (blkOk_by (own := [("_law_one_here", 7)]) (N := ["_law_due", "_law_least", "_law_most", "_law_must", "_law_lots", "_law_good", "_law_bad", "_law_one_here", "_law_k", "_law_lot"]) (sc := ({ kind := .function, names := [(PySem.Str.ofString ".0", .local), (PySem.Str.ofString "_law_lot", .cell), (PySem.Str.ofString "_law_good", .cell)], isGenerator := false, isCoroutine := false, more := [] } : Scope)) (by decide +kernel)) (fun _ _ _ _ _ => (pg_name (i := 7) sc_law_lots_right.nd rfl (Or.inl rfl))) (fun _ _ _ _ _ => pts_nil) (fun _ _ _ _ _ => (pe_cl (ok_law_less T) (hr.mono (by decide)) (by rfl) T.g_law_less (pa_cons (pv 7) (pa_cons (pv 9) pa_nil))))) (by rfl)))) (fun _ _ _ _ _ => (pv 9))) (nomark _)) (pss_one (ps_ret pe_bl)) pss_nil)
      (pss_cons (ps_if (pt_cmpR (op_ne2 hr) (pv 2) (pe_lc rfl sc_law_lots_right.nd (pi_list (pv 6)) (blkOk_by (own := [("_law_lot", 9)]) (N := ["_law_due", "_law_least", "_law_most", "_law_must", "_law_lots", "_law_good", "_law_bad", "_law_one_here", "_law_k", "_law_lot"]) (sc := (defScope s_law_lots_right)) (by decide +kernel)) (fun _ _ _ _ _ => (pg_name (i := 9) sc_law_lots_right.nd rfl (Or.inr rfl))) (fun _ _ _ _ _ => (pts_one (pt_cmpR (notInK (K := K) rfl) pe_bl (pe_lc rfl sc_law_lots_right.nd (listK (K := K) rfl (pv 6)) (blkOk_by (own := [("_law_one_here", 7)]) (N := ["_law_due", "_law_least", "_law_most", "_law_must", "_law_lots", "_law_good", "_law_bad", "_law_one_here", "_law_k", "_law_lot"]) (sc := ({ kind := .function, names := [(PySem.Str.ofString ".0", .local), (PySem.Str.ofString "_law_lot", .cell), (PySem.Str.ofString "_law_bad", .cell)], isGenerator := false, isCoroutine := false, more := [] } : Scope)) (by decide +kernel)) (fun _ _ _ _ _ => (pg_name (i := 7) sc_law_lots_right.nd rfl (Or.inl rfl))) (fun _ _ _ _ _ => pts_nil) (fun _ _ _ _ _ => (pe_cl (ok_law_less T) (hr.mono (by decide)) (by rfl) T.g_law_less (pa_cons (pv 9) (pa_cons (pv 7) pa_nil))))) (by rfl)))) (fun _ _ _ _ _ => (pv 9))) (nomark _)) (pss_one (ps_ret pe_bl)) pss_nil)
      (pss_cons (ps_for PassesOwn.never rfl (pi_list (pv 1)) (pg_name (i := 7) sc_law_lots_right.nd rfl (Or.inr rfl)) (pss_one (ps_if (pt_cmpR op_in_seq pe_bl (pe_lc rfl sc_law_lots_right.nd (pi_list (pv 2)) (blkOk_by (own := [("_law_lot", 9)]) (N := ["_law_due", "_law_least", "_law_most", "_law_must", "_law_lots", "_law_good", "_law_bad", "_law_one_here", "_law_k", "_law_lot"]) (sc := (defScope s_law_lots_right)) (by decide +kernel)) (fun _ _ _ _ _ => (pg_name (i := 9) sc_law_lots_right.nd rfl (Or.inl rfl))) (fun _ _ _ _ _ => pts_nil) (fun _ _ _ _ _ => (pe_cmpR (eq2K (K := K) rfl hr) (pe_op op_and (pv 7) (pv 9)) (pv 7) (nomark _)))) (by rfl)) (pss_one (ps_ret pe_bl)) pss_nil)))
      (pss_cons (ps_for PassesOwn.never rfl (pi_range1 (by rfl) T.f_range (pa_cons (pe_callB call_lenN (by rfl) T.f_len PySem.boot_len (pa_cons (pv 0) pa_nil)) pa_nil)) (pg_name (i := 8) sc_law_lots_right.nd rfl (Or.inl rfl)) (pss_one (ps_if (PW.pt (pw_and (pt_cmpR op_gt (pe_callB call_lenN (by rfl) T.f_len PySem.boot_len (pa_cons (pv 0) pa_nil)) (pe_op op_shl pe_int (pv 8)) (nomark _)) (pw_and1 (pt_cmpR (op_eq2 hr) (pe_cl (ok_law_in T) (hr.mono (by decide)) (by rfl) T.g_law_in (pa_cons (pv 3) (pa_cons (pv 8) pa_nil))) (pe_ix ix_seq (pv 0) (pe_op op_sub (pe_op op_sub (pe_callB call_lenN (by rfl) T.f_len PySem.boot_len (pa_cons (pv 0) pa_nil)) pe_int) (pe_op op_shl pe_int (pv 8))) (fun _ _ => rfl)) (nomark _))))) (pss_one (ps_ret pe_bl)) pss_nil)))
      (pss_one (ps_ret pe_bl)))))))), ?_⟩
  walk_at "st"
  walk_at "rd"
  refine rd_lenL (s.seq hpd) ?_
  rw [hdl]
  walk_at "rd"
  refine ⟨.of_le (by decide) (by omega) (by decide) (by omega), fun pl hpl => ?_⟩
  rw [rgV_nat]
  have x1 := (Xt.refl s).new (o := .lst ((List.range (2 ^ n)).map fun i : Nat => V.int (i : Int))) hpl
  have hlots : Nls K (upd F pl (.lst ((List.range (2 ^ n)).map fun i : Nat => V.int (i : Int)))) (.ref pl) (List.range (2 ^ n)) := ⟨pl, _, rfl, SqL.of upd_same, All2.of_map fun _ _ => rfl⟩
  generalize upd F pl (.lst ((List.range (2 ^ n)).map fun i : Nat => V.int (i : Int))) = F1 at x1 hlots
  generalize upd H pl (.lst ((List.range (2 ^ n)).map fun i : Nat => V.int (i : Int))) = H1 at x1 ⊢
  walk_at "rd"
  refine lc_list (R := NatR) NatR D (fun l : Nat => l) hlots x1.sub (by rw [List.length_range]; omega) (fun i l F2 H2 v hy x hv Z Z0 hZ hZ0 => ?_) fun D1 F2 H2 x2 hD1 => ?_
  · obtain rfl : v = .int (l : Int) := hv
    have hl : l < 2 ^ n := List.mem_range.mp (List.mem_of_getElem? hy)
    walk_at "wp"
    walk_at "rd"
    refine ⟨rfl, ?_⟩
    walk_at "rd"
    refine rd_ixL ((x1.trans x).sl hpd) (atI_get2 (hat l hl)) ?_
    walk_at "rd"
    cases hD : D l with
    | true =>
      walk_at "rd"
      exact hZ hD _ _ _ (Xt.refl x.sub) rfl
    | false =>
      walk_at "rd"
      exact hZ0 hD _ _ (Xt.refl x.sub)
  rw [List.map_id'] at hD1
  have hD1 : Nls K F2 (.ref D1) (goodP n D) := hD1
  walk_at "rd"
  refine lc_list (R := NatR) NatR (fun l => !D l) (fun l : Nat => l) (x2.mono hlots) x2.sub (by rw [List.length_range]; omega) (fun i l F3 H3 v hy x hv Z Z0 hZ hZ0 => ?_) fun D2 F3 H3 x3 hD2 => ?_
  · obtain rfl : v = .int (l : Int) := hv
    have hl : l < 2 ^ n := List.mem_range.mp (List.mem_of_getElem? hy)
    walk_at "wp"
    walk_at "rd"
    refine ⟨rfl, ?_⟩
    walk_at "rd"
    refine rd_ixL ((x1.trans (x2.trans x)).sl hpd) (atI_get2 (hat l hl)) ?_
    walk_at "rd"
    cases hD : D l with
    | true =>
      walk_at "rd"
      exact hZ0 (by simp [hD]) _ _ (Xt.refl x.sub)
    | false =>
      walk_at "rd"
      exact hZ (by simp [hD]) _ _ _ (Xt.refl x.sub) rfl
  rw [List.map_id'] at hD2
  have hD2 : Nls K F3 (.ref D2) (badP n D) := hD2
  have hD1 := x3.mono hD1
  have x123 := x1.trans (x2.trans x3)
  have hgl : (goodP n D).length ≤ 1000 := by
    unfold goodP
    refine Nat.le_trans (List.length_filter_le _ _) ?_
    rw [List.length_range]
    omega
  have hbl : (badP n D).length ≤ 1000 := by
    unfold badP
    refine Nat.le_trans (List.length_filter_le _ _) ?_
    rw [List.length_range]
    omega
  generalize goodP n D = G at hD1 hgl els
  generalize badP n D = B at hD2 hbl ems
  walk_at "rd"
  refine ⟨szl (by simp), fun ptt hptt => ?_⟩
  have x3 := x3.newH (o := .tup [.ref D1, .ref D2]) hptt
  have x123 := x1.trans (x2.trans x3)
  refine rd_tupG (SqT.of upd_same) rfl ?_
  walk_at "rd"
  refine lc_list (R := NatR) NatR (fun l => !(G.any fun o => lessB o l)) (fun l : Nat => l) hD1 x3.sub hgl (fun i l F4 H4 v hy x hv Z Z0 hZ hZ0 => ?_) fun D4 F4 H4 x4 hD4 => ?_
  · obtain rfl : v = .int (l : Int) := hv
    walk_at "wp"
    walk_at "rd"
    refine ⟨rfl, ?_⟩
    walk_at "rd"
    refine lc_list (R := NatR) BoolR (fun _ => true) (fun o : Nat => lessB o l) (x.mono hD1) x.sub hgl (fun j o F5 H5 v hy x5 hv Z' Z0' hZ' _ => ?_) fun D5 F5 H5 x5 hD5 => ?_
    · obtain rfl : v = .int (o : Int) := hv
      walk_at "wp"
      walk_at "rd"
      refine ⟨rfl, ?_⟩
      walk_at "rd"
      exact ⟨o, l, rfl, hZ' rfl _ _ _ (Xt.refl x5.sub) rfl⟩
    · rw [filtT] at hD5
      refine rd_trueIn hD5 x5.sub ?_
      rw [if_pos rfl, List.any_map]
      have e : (G.any (id ∘ fun o => lessB o l)) = G.any fun o => lessB o l := rfl
      rw [e]
      walk_at "rd"
      cases hb : G.any fun o => lessB o l with
      | true =>
        walk_at "rd"
        exact hZ0 (by rw [hb]; rfl) _ _ x5
      | false =>
        walk_at "rd"
        exact hZ (by rw [hb]; rfl) _ _ _ x5 rfl
  rw [List.map_id'] at hD4
  have hD4 : Nls K F4 (.ref D4) (minP G) := hD4
  walk_at "rd"
  refine rd_neD dat_nat.lst (by decide) (sm_mo (x123.trans x4).fH h2) (sm_mo x4.sub hD4) ?_
  walk_at "rd"
  refine ifNF els ?_
  walk_at "rd"
  refine lc_list (R := NatR) NatR (fun l => !(B.any fun o => lessB l o)) (fun l : Nat => l) (x4.mono hD2) x4.sub hbl (fun i l F5 H5 v hy x hv Z Z0 hZ hZ0 => ?_) fun D5 F5 H5 x5 hD5 => ?_
  · obtain rfl : v = .int (l : Int) := hv
    walk_at "wp"
    walk_at "rd"
    refine ⟨rfl, ?_⟩
    walk_at "rd"
    refine lc_list (R := NatR) BoolR (fun _ => true) (fun o : Nat => lessB l o) (sm_mo (x4.ff.trans x.ff) hD2) x.sub hbl (fun j o F6 H6 v hy x6 hv Z' Z0' hZ' _ => ?_) fun D6 F6 H6 x6 hD6 => ?_
    · obtain rfl : v = .int (o : Int) := hv
      walk_at "wp"
      walk_at "rd"
      refine ⟨rfl, ?_⟩
      walk_at "rd"
      exact ⟨l, o, rfl, hZ' rfl _ _ _ (Xt.refl x6.sub) rfl⟩
    · rw [filtT] at hD6
      refine rd_trueIn hD6 x6.sub ?_
      rw [if_pos rfl, List.any_map]
      have e : (B.any (id ∘ fun o => lessB l o)) = B.any fun o => lessB l o := rfl
      rw [e]
      walk_at "rd"
      cases hb : B.any fun o => lessB l o with
      | true =>
        walk_at "rd"
        exact hZ0 (by rw [hb]; rfl) _ _ x6
      | false =>
        walk_at "rd"
        exact hZ (by rw [hb]; rfl) _ _ _ x6 rfl
  rw [List.map_id'] at hD5
  have hD5 : Nls K F5 (.ref D5) (maxP B) := hD5
  have x0 := x123.trans (x4.trans x5)
  walk_at "rd"
  refine rd_neD dat_nat.lst (by decide) (sm_mo x0.fH h3) (sm_mo x5.sub hD5) ?_
  walk_at "rd"
  refine ifNF ems ?_
  walk_at "rd"
  refine fo_list (R := NatR) (F := F5) (fun i σ F6 H6 => ∃ (y7 : Option V), σ = [some (.ref pd), some v2, some v3, some (.int (must : Int)), some (.ref pl), some (.ref D1), some (.ref D2), y7, none, none] ∧ Xt F5 H5 F6 H6) (x0.mono h2) ⟨_, rfl, Xt.refl x5.sub⟩ (fun i σ F6 H6 ⟨_, _, x⟩ => ⟨x.ff, x.sub⟩) ?_ ?_
  · rintro i o v σ F6 H6 hy hv ⟨y7, rfl, x6⟩
    obtain rfl : v = .int (o : Int) := hv
    have ho := List.mem_of_getElem? hy
    have hml : ms.length ≤ 1000 := by
      rw [ems]
      exact Nat.le_trans (List.length_filter_le _ _) hbl
    walk_at "rd"
    refine lc_list (R := NatR) BoolR (fun _ => true) (fun l : Nat => decide (o &&& l = o)) ((x0.trans x6).mono h3) x6.sub hml (fun j l F7 H7 v hy x7 hv Z' Z0' hZ' _ => ?_) fun D7 F7 H7 x7 hD7 => ?_
    · obtain rfl : v = .int (l : Int) := hv
      walk_at "wp"
      walk_at "rd"
      refine ⟨rfl, ?_⟩
      walk_at "rd"
      rw [band_nat]
      refine hZ' rfl _ _ _ (Xt.refl x7.sub) ?_
      show V.bl _ = V.bl _
      rw [decide_eq_decide.mpr (show (((o &&& l : Nat) : Int) = (o : Int)) ↔ o &&& l = o by omega)]
    · rw [filtT] at hD7
      have e : ((ms.map fun l : Nat => decide (o &&& l = o)).any id) = false := by
        rw [List.any_map]
        exact List.any_eq_false.mpr fun l hl => by
          have := hout o ho l hl
          simp [this]
      walk_at "rd"
      refine rd_trueIn hD7 x7.sub ?_
      rw [e]
      walk_at "rd"
      exact ⟨F7, _, rfl, x6.trans x7⟩
  · rintro σ F6 H6 ⟨y7, rfl, x6⟩
    have x06 := x0.trans x6
    walk_at "rd"
    refine rd_lenL (x06.sl hpd) ?_
    rw [hdl]
    walk_at "rd"
    refine fo_rng (fun i σ H7 => ∃ (y7 y8 : Option V), σ = [some (.ref pd), some v2, some v3, some (.int (must : Int)), some (.ref pl), some (.ref D1), some (.ref D2), y7, y8, none] ∧ H7 = H6) (by omega) ⟨_, _, rfl, rfl⟩ ?_ ?_
    · rintro k σ H7 hk ⟨y7, y8, rfl, rfl⟩
      walk_at "rd"
      refine rd_lenL (x06.sl hpd) ?_
      rw [hdl]
      walk_at "rd"
      refine rd_I ⟨by omega, by omega, by decide⟩ ?_
      rw [pow_nat]
      walk_at "rd"
      refine ifD (fun hlt => ?_) fun hge => ?_
      · have hkn : k < n := by
          rcases Nat.lt_or_ge k n with h | h
          · exact h
          · have := Nat.pow_le_pow_right (n := 2) (by decide) h
            omega
        walk_at "rd"
        refine ⟨must, k, rfl, by omega, ?_⟩
        walk_at "rd"
        refine rd_lenL (x06.sl hpd) ?_
        rw [hdl]
        walk_at "rd"
        refine rd_I ⟨by omega, by omega, by decide⟩ ?_
        rw [pow_nat]
        walk_at "rd"
        have hle2 : 1 + 2 ^ k ≤ 2 ^ n := by
          have := Nat.pow_le_pow_right (n := 2) (by decide) (show k + 1 ≤ n from hkn)
          have h2 : 2 ^ (k + 1) = 2 ^ k * 2 := Nat.pow_succ ..
          have h0 : 0 < 2 ^ k := Nat.pos_of_ne_zero (by simp)
          generalize 2 ^ n = a at *
          generalize 2 ^ k = b at *
          omega
        have e : ((2 ^ n : Nat) : Int) - 1 - ((2 ^ k : Nat) : Int) = ((2 ^ n - 1 - 2 ^ k : Nat) : Int) := by
          generalize 2 ^ n = a at *
          generalize 2 ^ k = b at *
          omega
        rw [e]
        have hlt2 : 2 ^ n - 1 - 2 ^ k < 2 ^ n := by
          generalize 2 ^ n = a at hp0
          generalize 2 ^ k = b
          omega
        refine rd_ixL (x06.sl hpd) (atI_get2 (hat _ hlt2)) ?_
        walk_at "rd"
        refine ifF (hbit k hkn) ?_
        walk_at "rd"
        exact ⟨_, _, rfl, rfl⟩
      · walk_at "rd"
        exact ⟨_, _, rfl, rfl⟩
    · rintro σ H7 ⟨y7, y8, rfl, rfl⟩
      walk_at "rd"
      exact q _ x06.hh
end
end Wp


set_option Elab.async false
set_option linter.all false
set_option maxRecDepth 100000
set_option maxHeartbeats 4000000
namespace Wp
open PySem PySem.Spec PyProof.Rows L2
/-! ## the plain law: who gets the seats -/
theorem bt_iff {f : Bool} {st v0 h0 v1 h1 : Int} : bt f st v0 h0 v1 h1 = true ↔ v0 * (1 + st * h1) < v1 * (1 + st * h0) ∨ (v0 * (1 + st * h1) = v1 * (1 + st * h0) ∧ f = false) := by
  unfold bt
  rw [Bool.or_eq_true, Bool.and_eq_true, decide_eq_true_eq, decide_eq_true_eq]
  cases f <;> simp
theorem bt_mono {f : Bool} {st v0 h0 v1 h1 v0' h0' v1' h1' : Int} (hst : st = 1 ∨ st = 2) (h : bt f st v0 h0 v1 h1 = true) (p0 : 0 ≤ v0') (p1 : 0 ≤ v1) (a0 : 0 ≤ h0) (a1 : 0 ≤ h1') (l0 : v0' ≤ v0) (l1 : v1 ≤ v1') (l2 : h0 ≤ h0') (l3 : h1' ≤ h1) : bt f st v0' h0' v1' h1' = true := by
  have d1 : 1 + st * h1' ≤ 1 + st * h1 := by rcases hst with rfl | rfl <;> omega
  have d0 : 1 + st * h0 ≤ 1 + st * h0' := by rcases hst with rfl | rfl <;> omega
  have e1 : 0 ≤ 1 + st * h1' := by rcases hst with rfl | rfl <;> omega
  have e0 : 0 ≤ 1 + st * h0 := by rcases hst with rfl | rfl <;> omega
  have m1 : v0' * (1 + st * h1') ≤ v0 * (1 + st * h1) := Int.mul_le_mul l0 d1 e1 (by omega)
  have m0 : v1 * (1 + st * h0) ≤ v1' * (1 + st * h0') := Int.mul_le_mul l1 d0 e0 (by omega)
  rw [bt_iff] at h ⊢
  rcases h with h | ⟨h, hf⟩
  · left
    omega
  · by_cases e : v0' * (1 + st * h1') = v1' * (1 + st * h0')
    · exact .inr ⟨e, hf⟩
    · left
      omega
def oc (f : Bool) (st W v0 v1 : Int) (n : Nat) (i0 i1 : Int) : Int × Int := cnt (runM f st W v0 v1 n i0 i1)
theorem cnt_cons (b : Bool) (bs : List Bool) : cnt (b :: bs) = ((1 - hI b) + (cnt bs).1, hI b + (cnt bs).2) := by
  cases b <;> simp [cnt, hI] <;> omega
theorem oc_none {f : Bool} {st W v0 v1 i0 i1 : Int} {n : Nat} (h0 : v0 < W) (h1 : v1 < W) : oc f st W v0 v1 n i0 i1 = (0, 0) := by
  unfold oc
  rw [runM_none ⟨h0, h1⟩]
  rfl
theorem oc_one0 {f : Bool} {st W v0 v1 : Int} (h0 : W ≤ v0) (h1 : v1 < W) : ∀ (n : Nat) (i0 i1 : Int), oc f st W v0 v1 n i0 i1 = ((n : Int), 0)
  | 0, _, _ => rfl
  | n + 1, i0, i1 => by
    have ih := oc_one0 (f := f) (st := st) h0 h1 n (i0 + (1 - hI false)) (i1 + hI false)
    unfold oc at ih ⊢
    rw [runM, pick_one0 h0 h1]
    show cnt (false :: _) = _
    rw [cnt_cons, ih]
    simp [hI]
    omega
theorem oc_one1 {f : Bool} {st W v0 v1 : Int} (h0 : v0 < W) (h1 : W ≤ v1) : ∀ (n : Nat) (i0 i1 : Int), oc f st W v0 v1 n i0 i1 = (0, (n : Int))
  | 0, _, _ => rfl
  | n + 1, i0, i1 => by
    have ih := oc_one1 (f := f) (st := st) h0 h1 n (i0 + (1 - hI true)) (i1 + hI true)
    unfold oc at ih ⊢
    rw [runM, pick_one1 h0 h1]
    show cnt (true :: _) = _
    rw [cnt_cons, ih]
    simp [hI]
    omega
/-- the last seat of each hand is not beaten by the other's next -/
def Chr (f : Bool) (st v0 v1 i0 i1 n0 n1 : Int) : Prop := (0 < n0 → bt f st v0 (i0 + n0 - 1) v1 (i1 + n1) = false) ∧ (0 < n1 → bt f st v0 (i0 + n0) v1 (i1 + n1 - 1) = true)
theorem oc_chr {f : Bool} {st W v0 v1 : Int} (hst : st = 1 ∨ st = 2) (p0 : 0 ≤ v0) (p1 : 0 ≤ v1) (h0 : W ≤ v0) (h1 : W ≤ v1) : ∀ (n : Nat) (i0 i1 : Int), 0 ≤ i0 → 0 ≤ i1 →
    0 ≤ (oc f st W v0 v1 n i0 i1).1 ∧ 0 ≤ (oc f st W v0 v1 n i0 i1).2 ∧ (oc f st W v0 v1 n i0 i1).1 + (oc f st W v0 v1 n i0 i1).2 = n ∧ Chr f st v0 v1 i0 i1 (oc f st W v0 v1 n i0 i1).1 (oc f st W v0 v1 n i0 i1).2
  | 0, _, _, _, _ => ⟨Int.le_refl _, Int.le_refl _, rfl, fun h => absurd h (Int.lt_irrefl 0), fun h => absurd h (Int.lt_irrefl 0)⟩
  | n + 1, i0, i1, a0, a1 => by
    have hp := pick_both (f := f) hst p0 p1 a0 a1 h0 h1
    cases hb : bt f st v0 i0 v1 i1 with
    | false =>
      rw [hb] at hp
      obtain ⟨q1, q2, q3, c1, c2⟩ := oc_chr (f := f) hst p0 p1 h0 h1 n (i0 + 1) i1 (by omega) a1
      have e : oc f st W v0 v1 (n + 1) i0 i1 = (1 + (oc f st W v0 v1 n (i0 + 1) i1).1, (oc f st W v0 v1 n (i0 + 1) i1).2) := by
        unfold oc
        rw [runM, hp]
        show cnt (false :: runM f st W v0 v1 n (i0 + (1 - hI false)) (i1 + hI false)) = _
        rw [cnt_cons]
        simp [hI]
      rw [e]
      generalize (oc f st W v0 v1 n (i0 + 1) i1).1 = m0 at *
      generalize (oc f st W v0 v1 n (i0 + 1) i1).2 = m1 at *
      refine ⟨by simp only; omega, q2, by simp only; omega, fun _ => ?_, fun hm => ?_⟩
      · show bt f st v0 (i0 + (1 + m0) - 1) v1 (i1 + m1) = false
        by_cases hm0 : 0 < m0
        · have := c1 hm0
          rw [show i0 + (1 + m0) - 1 = i0 + 1 + m0 - 1 by omega]
          exact this
        · have hm : m0 = 0 := by omega
          subst hm
          rw [show i0 + (1 + 0) - 1 = i0 by omega]
          rcases Bool.eq_false_or_eq_true (bt f st v0 i0 v1 (i1 + m1)) with h | h
          · have := bt_mono hst h p0 p1 a0 a1 (Int.le_refl _) (Int.le_refl _) (Int.le_refl _) (show i1 ≤ i1 + m1 by omega)
            rw [hb] at this
            cases this
          · exact h
      · show bt f st v0 (i0 + (1 + m0)) v1 (i1 + m1 - 1) = true
        have := c2 hm
        rw [show i0 + (1 + m0) = i0 + 1 + m0 by omega]
        exact this
    | true =>
      rw [hb] at hp
      obtain ⟨q1, q2, q3, c1, c2⟩ := oc_chr (f := f) hst p0 p1 h0 h1 n i0 (i1 + 1) a0 (by omega)
      have e : oc f st W v0 v1 (n + 1) i0 i1 = ((oc f st W v0 v1 n i0 (i1 + 1)).1, 1 + (oc f st W v0 v1 n i0 (i1 + 1)).2) := by
        unfold oc
        rw [runM, hp]
        show cnt (true :: runM f st W v0 v1 n (i0 + (1 - hI true)) (i1 + hI true)) = _
        rw [cnt_cons]
        simp [hI]
      rw [e]
      generalize (oc f st W v0 v1 n i0 (i1 + 1)).1 = m0 at *
      generalize (oc f st W v0 v1 n i0 (i1 + 1)).2 = m1 at *
      refine ⟨q1, by simp only; omega, by simp only; omega, fun hm => ?_, fun _ => ?_⟩
      · show bt f st v0 (i0 + m0 - 1) v1 (i1 + (1 + m1)) = false
        have := c1 hm
        rw [show i1 + (1 + m1) = i1 + 1 + m1 by omega]
        exact this
      · show bt f st v0 (i0 + m0) v1 (i1 + (1 + m1) - 1) = true
        by_cases hm1 : 0 < m1
        · have := c2 hm1
          rw [show i1 + (1 + m1) - 1 = i1 + 1 + m1 - 1 by omega]
          exact this
        · have hm : m1 = 0 := by omega
          subst hm
          rw [show i1 + (1 + 0) - 1 = i1 by omega]
          exact bt_mono hst hb p0 p1 a0 a1 (Int.le_refl _) (Int.le_refl _) (show i0 ≤ i0 + m0 by omega) (Int.le_refl _)
theorem chr_le {f : Bool} {st v0 v1 i0 i1 n0 n1 m0 m1 : Int} (hst : st = 1 ∨ st = 2) (p0 : 0 ≤ v0) (p1 : 0 ≤ v1) (a0 : 0 ≤ i0) (a1 : 0 ≤ i1) (x0 : 0 ≤ n0) (x1 : 0 ≤ n1) (y0 : 0 ≤ m0) (y1 : 0 ≤ m1) (hs : n0 + n1 = m0 + m1) (c : Chr f st v0 v1 i0 i1 n0 n1) (d : Chr f st v0 v1 i0 i1 m0 m1) : m0 ≤ n0 := by
  rcases Int.lt_or_le n0 m0 with h | h
  · exfalso
    have h1 := d.1 (by omega)
    have h2 := c.2 (by omega)
    have h3 := bt_mono hst h2 p0 p1 (by omega) (by omega) (Int.le_refl _) (Int.le_refl _) (show i0 + n0 ≤ i0 + m0 - 1 by omega) (show i1 + m1 ≤ i1 + n1 - 1 by omega)
    rw [h1] at h3
    cases h3
  · exact h
theorem oc_eq {f : Bool} {st W v0 v1 i0 i1 n0 n1 : Int} {n : Nat} (hst : st = 1 ∨ st = 2) (p0 : 0 ≤ v0) (p1 : 0 ≤ v1) (h0 : W ≤ v0) (h1 : W ≤ v1) (a0 : 0 ≤ i0) (a1 : 0 ≤ i1) (x0 : 0 ≤ n0) (x1 : 0 ≤ n1) (hs : n0 + n1 = n) (c : Chr f st v0 v1 i0 i1 n0 n1) : oc f st W v0 v1 n i0 i1 = (n0, n1) := by
  obtain ⟨q1, q2, q3, d⟩ := oc_chr (f := f) hst p0 p1 h0 h1 n i0 i1 a0 a1
  have e1 := chr_le hst p0 p1 a0 a1 x0 x1 q1 q2 (by omega) c d
  have e2 := chr_le hst p0 p1 a0 a1 q1 q2 x0 x1 (by omega) d c
  exact Prod.ext (by simp only; omega) (by simp only; omega)
theorem oc_sum {f : Bool} {st W v0 v1 i0 i1 : Int} {n : Nat} (hst : st = 1 ∨ st = 2) (p0 : 0 ≤ v0) (p1 : 0 ≤ v1) (a0 : 0 ≤ i0) (a1 : 0 ≤ i1) (h : W ≤ v0 ∨ W ≤ v1) :
    0 ≤ (oc f st W v0 v1 n i0 i1).1 ∧ 0 ≤ (oc f st W v0 v1 n i0 i1).2 ∧ (oc f st W v0 v1 n i0 i1).1 + (oc f st W v0 v1 n i0 i1).2 = n := by
  by_cases w0 : W ≤ v0 <;> by_cases w1 : W ≤ v1
  · obtain ⟨q0, q1, q2, _⟩ := oc_chr (f := f) hst p0 p1 w0 w1 n i0 i1 a0 a1
    exact ⟨q0, q1, q2⟩
  · rw [oc_one0 w0 (by omega)]
    simp
  · rw [oc_one1 (by omega) w1]
    simp
  · omega
theorem notBad {f : Bool} {st W u : Int} {v e s : Int × Int} {b : Nat} : (!badB f st W v u e s b) = true ↔ (0 < sel e b → W ≤ sel v b ∧ (W ≤ sel v (1 - b) + u → pas f st (sel v (1 - b) + u) (sel s (1 - b)) (sel v b) (sel s b - 1) (1 - b : Nat) (b : Nat) = false)) := by
  unfold badB
  by_cases h1 : 0 < sel e b
  · by_cases h2 : sel v b < W
    · have : ¬ W ≤ sel v b := by omega
      simp [h1, h2, this]
    · by_cases h3 : W ≤ sel v (1 - b) + u
      · have : W ≤ sel v b := by omega
        simp [h1, h2, h3, this]
      · have : W ≤ sel v b := by omega
        simp [h1, h2, h3, this]
  · simp [h1]
theorem core_prop {f : Bool} {st W s0 s1 u o0 o1 m0 m1 : Int} (hst : st = 1 ∨ st = 2) (p0 : 0 ≤ s0) (p1 : 0 ≤ s1) (hu : 0 ≤ u) (a0 : o0 ≤ m0) (a1 : o1 ≤ m1) (b0 : 0 ≤ m0) (b1 : 0 ≤ m1) : coreH f st W (s0, s1) u (o0, o1) (m0, m1) = true ↔
    (0 < o0 → W ≤ s0 ∧ (W ≤ s1 + u → bt f st s0 (m0 - 1) (s1 + u) m1 = false)) ∧ (0 < o1 → W ≤ s1 ∧ (W ≤ s0 + u → bt f st (s0 + u) m0 s1 (m1 - 1) = true)) := by
  unfold coreH
  rw [Bool.and_eq_true, notBad, notBad]
  have e1 : sel (o0, o1) 0 = o0 := rfl
  have e2 : sel (o0, o1) 1 = o1 := rfl
  have e3 : sel (s0, s1) 0 = s0 := rfl
  have e4 : sel (s0, s1) 1 = s1 := rfl
  have e5 : sel (m0, m1) 0 = m0 := rfl
  have e6 : sel (m0, m1) 1 = m1 := rfl
  rw [show (1 - 0 : Nat) = 1 from rfl, show (1 - 1 : Nat) = 0 from rfl, e1, e2, e3, e4, e5, e6]
  refine and_congr (forall_congr' fun h => and_congr Iff.rfl (forall_congr' fun _ => ?_)) (forall_congr' fun h => and_congr Iff.rfl (forall_congr' fun _ => ?_))
  · show pas f st (s1 + u) m1 s0 (m0 - 1) 1 0 = false ↔ _
    rw [pas10 hst (by omega) p0 b1 (by omega)]
  · show pas f st (s0 + u) m0 s1 (m1 - 1) 0 1 = false ↔ _
    rw [pas01 hst (by omega) p1 b0 (by omega)]
    cases bt f st (s0 + u) m0 s1 (m1 - 1) <;> simp
/-- what is held is due: each filling leaves the outcome as it is -/
theorem core_iff {f : Bool} {st W s0 s1 k0 k1 u i0 i1 : Int} {n : Nat} {o : Int × Int} (hst : st = 1 ∨ st = 2) (p0 : 0 ≤ s0) (p1 : 0 ≤ s1) (l0 : s0 ≤ k0) (l1 : s1 ≤ k1) (lu : (k0 - s0) + (k1 - s1) ≤ u) (a0 : 0 ≤ i0) (a1 : 0 ≤ i1) (hn : 0 < n) (ho : oc f st W k0 k1 n i0 i1 = o) :
    (if u = 0 then true else if o.1 + o.2 = 0 then noneC W (s0, s1) u else coreH f st W (s0, s1) u o (i0 + o.1, i1 + o.2)) = true ↔ ∀ x y, 0 ≤ x → 0 ≤ y → x + y ≤ u → oc f st W (s0 + x) (s1 + y) n i0 i1 = o := by
  obtain ⟨o0, o1⟩ := o
  by_cases hu : u = 0
  · rw [if_pos hu]
    refine ⟨fun _ x y hx hy hxy => ?_, fun _ => rfl⟩
    rw [← ho, show s0 + x = k0 by omega, show s1 + y = k1 by omega]
  have hu0 : 0 ≤ u := by omega
  rw [if_neg hu]
  by_cases hk : W ≤ k0 ∨ W ≤ k1
  · obtain ⟨q0, q1, q2⟩ := oc_sum (f := f) (n := n) hst (show 0 ≤ k0 by omega) (show 0 ≤ k1 by omega) a0 a1 hk
    rw [ho] at q0 q1 q2
    simp only at q0 q1 q2
    rw [if_neg (by simp only; omega), core_prop hst p0 p1 hu0 (by simp only; omega) (by simp only; omega) (by simp only; omega) (by simp only; omega)]
    simp only
    constructor
    · rintro ⟨c0, c1⟩ x y hx hy hxy
      by_cases w0 : W ≤ s0 + x <;> by_cases w1 : W ≤ s1 + y
      · refine oc_eq hst (by omega) (by omega) w0 w1 a0 a1 q0 q1 q2 ⟨fun h => ?_, fun h => ?_⟩
        · have h1 := (c0 h).2 (by omega)
          rcases Bool.eq_false_or_eq_true (bt f st (s0 + x) (i0 + o0 - 1) (s1 + y) (i1 + o1)) with h2 | h2
          · have h3 := bt_mono (v0' := s0) (v1' := s1 + u) hst h2 p0 (by omega) (by omega) (show 0 ≤ i1 + o1 by omega) (by omega) (by omega) (Int.le_refl _) (Int.le_refl _)
            rw [h1] at h3
            cases h3
          · exact h2
        · have h1 := (c1 h).2 (by omega)
          exact bt_mono hst h1 (by omega) p1 (by omega) (by omega) (by omega) (by omega) (Int.le_refl _) (Int.le_refl _)
      · have h1 : ¬ 0 < o1 := fun h => by
          have := (c1 h).1
          omega
        rw [oc_one0 w0 (by omega)]
        exact Prod.ext (by simp only; omega) (by simp only; omega)
      · have h1 : ¬ 0 < o0 := fun h => by
          have := (c0 h).1
          omega
        rw [oc_one1 (by omega) w1]
        exact Prod.ext (by simp only; omega) (by simp only; omega)
      · exfalso
        by_cases h : 0 < o0
        · have := (c0 h).1
          omega
        · have := (c1 (by omega)).1
          omega
    · intro all
      refine ⟨fun h => ?_, fun h => ?_⟩
      · have w0 : W ≤ s0 := by
          rcases Int.lt_or_le s0 W with hlt | hle
          · exfalso
            have e := all 0 0 (Int.le_refl _) (Int.le_refl _) (by omega)
            rw [Int.add_zero, Int.add_zero] at e
            by_cases w1 : W ≤ s1
            · rw [oc_one1 hlt w1] at e
              have := (Prod.mk.inj e).1
              omega
            · rw [oc_none hlt (by omega)] at e
              have := (Prod.mk.inj e).1
              omega
          · exact hle
        refine ⟨w0, fun w1 => ?_⟩
        have e := all 0 u (Int.le_refl _) hu0 (by omega)
        rw [Int.add_zero] at e
        obtain ⟨_, _, _, c⟩ := oc_chr (f := f) hst p0 (show 0 ≤ s1 + u by omega) w0 w1 n i0 i1 a0 a1
        rw [e] at c
        exact c.1 h
      · have w1 : W ≤ s1 := by
          rcases Int.lt_or_le s1 W with hlt | hle
          · exfalso
            have e := all 0 0 (Int.le_refl _) (Int.le_refl _) (by omega)
            rw [Int.add_zero, Int.add_zero] at e
            by_cases w0 : W ≤ s0
            · rw [oc_one0 w0 hlt] at e
              have := (Prod.mk.inj e).2
              omega
            · rw [oc_none (by omega) hlt] at e
              have := (Prod.mk.inj e).2
              omega
          · exact hle
        refine ⟨w1, fun w0 => ?_⟩
        have e := all u 0 hu0 (Int.le_refl _) (by omega)
        rw [Int.add_zero] at e
        obtain ⟨_, _, _, c⟩ := oc_chr (f := f) hst (show 0 ≤ s0 + u by omega) p1 w0 w1 n i0 i1 a0 a1
        rw [e] at c
        exact c.2 h
  · have hko : (o0, o1) = (0, 0) := by
      rw [← ho]
      exact oc_none (by omega) (by omega)
    obtain ⟨rfl, rfl⟩ := Prod.mk.inj hko
    rw [if_pos (show ((0 : Int), (0 : Int)).1 + ((0 : Int), (0 : Int)).2 = 0 from rfl)]
    unfold noneC
    rw [Bool.and_eq_true, decide_eq_true_eq, decide_eq_true_eq]
    constructor
    · rintro ⟨h0, h1⟩ x y hx hy hxy
      simp only at h0 h1
      exact oc_none (by omega) (by omega)
    · intro all
      simp only
      constructor
      · rcases Int.lt_or_le (s0 + u) W with h | h
        · exact h
        · exfalso
          have e := all u 0 hu0 (Int.le_refl _) (by omega)
          rw [Int.add_zero] at e
          obtain ⟨_, _, q⟩ := oc_sum (f := f) (n := n) hst (show 0 ≤ s0 + u by omega) p1 a0 a1 (.inl h)
          rw [e] at q
          simp only at q
          omega
      · rcases Int.lt_or_le (s1 + u) W with h | h
        · exact h
        · exfalso
          have e := all 0 u (Int.le_refl _) hu0 (by omega)
          rw [Int.add_zero] at e
          obtain ⟨_, _, q⟩ := oc_sum (f := f) (n := n) hst p0 (show 0 ≤ s1 + u by omega) a0 a1 (.inr h)
          rw [e] at q
          simp only at q
          omega
end Wp


set_option Elab.async false
set_option linter.all false
set_option maxRecDepth 100000
set_option maxHeartbeats 4000000
namespace Wp
open PySem PySem.Spec PyProof.Rows L2
/-! ## the plain law: held is due -/
structure LeV (s v : Vt) : Prop where
  a : s.a ≤ v.a
  b : s.b ≤ v.b
  i : s.i ≤ v.i
structure NnV (s : Vt) : Prop where
  a : 0 ≤ s.a
  b : 0 ≤ s.b
  i : 0 ≤ s.i
theorem I2_inj {p q : Int × Int} (h : I2 p = I2 q) : p = q := by
  unfold I2 at h
  simp at h
  exact Prod.ext h.1 h.2
theorem heldA_iff {c : Cfg} {s kn : Vt} (ok : CfgOk c) (hs : NnV s) (hle : LeV s kn) : heldA c s (kn.sum - s.sum) kn = true ↔ ∀ v, LeV s v → v.sum = kn.sum → outA c v = outA c kn := by
  have h1 := hle.a; have h2 := hle.b; have h3 := hle.i
  have h := core_iff (f := c.f) (st := c.st) (W := want c.ht c.hb kn.sum) (s0 := s.a) (s1 := s.b) (k0 := kn.a) (k1 := kn.b) (u := kn.sum - s.sum) (i0 := 0) (i1 := 0) (n := c.S) (o := outA c kn) ok.st hs.a hs.b h1 h2 (by unfold Vt.sum; omega) (Int.le_refl _) (Int.le_refl _) ok.s1 rfl
  rw [Int.zero_add, Int.zero_add] at h
  unfold heldA
  rw [h]
  constructor
  · intro all v hv hsum
    have g1 := hv.a; have g2 := hv.b; have g3 := hv.i
    have := all (v.a - s.a) (v.b - s.b) (by omega) (by omega) (by rw [← hsum]; unfold Vt.sum; omega)
    rw [show s.a + (v.a - s.a) = v.a by omega, show s.b + (v.b - s.b) = v.b by omega, ← hsum] at this
    exact this
  · intro all x y hx hy hxy
    have := all ⟨s.a + x, s.b + y, s.i + (kn.sum - s.sum - x - y)⟩ ⟨by simp only; omega, by simp only; omega, by simp only; omega⟩ (by unfold Vt.sum; simp only; omega)
    unfold outA at this
    rw [show (Vt.mk (s.a + x) (s.b + y) (s.i + (kn.sum - s.sum - x - y))).sum = kn.sum by unfold Vt.sum; simp only; omega] at this
    exact this
theorem heldE_iff {c : LCfg} {sl kl : List Vt} (ok : LOk c) (hs : NnV (vtot sl)) (hle : LeV (vtot sl) (vtot kl)) : heldE c sl ((vtot kl).sum - (vtot sl).sum) kl = true ↔
    ∀ t, LeV (vtot sl) t → t.sum = (vtot kl).sum → oc c.f c.st (want c.ht c.hb (vtot kl).sum) t.a t.b c.ev (hadL c kl).1 (hadL c kl).2 = outE c kl := by
  have h1 := hle.a; have h2 := hle.b; have h3 := hle.i
  have hb := hadL_bd ok kl
  unfold heldE
  rw [← vtot_sum]
  by_cases hev : c.ev = 0
  · rw [if_pos (.inr hev)]
    refine ⟨fun _ t _ _ => ?_, fun _ => rfl⟩
    unfold outE oc
    rw [hev]
    rfl
  have h := core_iff (f := c.f) (st := c.st) (W := want c.ht c.hb (vtot kl).sum) (s0 := (vtot sl).a) (s1 := (vtot sl).b) (k0 := (vtot kl).a) (k1 := (vtot kl).b) (u := (vtot kl).sum - (vtot sl).sum) (i0 := (hadL c kl).1) (i1 := (hadL c kl).2) (n := c.ev) (o := outE c kl) ok.st hs.a hs.b h1 h2 (by unfold Vt.sum; omega) hb.1 hb.2.2.1 (by omega) rfl
  have e : (if (vtot kl).sum - (vtot sl).sum = 0 ∨ c.ev = 0 then true else if (outE c kl).1 + (outE c kl).2 = 0 then noneC (want c.ht c.hb (vtot kl).sum) ((vtot sl).a, (vtot sl).b) ((vtot kl).sum - (vtot sl).sum) else coreH c.f c.st (want c.ht c.hb (vtot kl).sum) ((vtot sl).a, (vtot sl).b) ((vtot kl).sum - (vtot sl).sum) (outE c kl) (allL c kl)) =
      (if (vtot kl).sum - (vtot sl).sum = 0 then true else if (outE c kl).1 + (outE c kl).2 = 0 then noneC (want c.ht c.hb (vtot kl).sum) ((vtot sl).a, (vtot sl).b) ((vtot kl).sum - (vtot sl).sum) else coreH c.f c.st (want c.ht c.hb (vtot kl).sum) ((vtot sl).a, (vtot sl).b) ((vtot kl).sum - (vtot sl).sum) (outE c kl) ((hadL c kl).1 + (outE c kl).1, (hadL c kl).2 + (outE c kl).2)) := by
    by_cases h0 : (vtot kl).sum - (vtot sl).sum = 0
    · rw [if_pos (.inl h0), if_pos h0]
    · rw [if_neg (by omega), if_neg h0]
      rfl
  rw [e, h]
  constructor
  · intro all t ht hsum
    have g1 := ht.a; have g2 := ht.b; have g3 := ht.i
    have := all (t.a - (vtot sl).a) (t.b - (vtot sl).b) (by omega) (by omega) (by rw [← hsum]; unfold Vt.sum; omega)
    rw [show (vtot sl).a + (t.a - (vtot sl).a) = t.a by omega, show (vtot sl).b + (t.b - (vtot sl).b) = t.b by omega] at this
    exact this
  · intro all x y hx hy hxy
    exact all ⟨(vtot sl).a + x, (vtot sl).b + y, (vtot sl).i + ((vtot kl).sum - (vtot sl).sum - x - y)⟩ ⟨by simp only; omega, by simp only; omega, by simp only; omega⟩ (by unfold Vt.sum; simp only; omega)
/-- whatever the unseen ballots say, the outcome is the known one -/
def Due (c : LCfg) (S Kn : Nat → Vt) : Prop := ∀ V : Nat → Vt, (∀ k < c.areas.length, LeV (S k) (V k) ∧ (V k).sum = (Kn k).sum) → outL c ((List.range c.areas.length).map V) = outL c ((List.range c.areas.length).map Kn)
theorem vtot1 (x : Vt) : vtot [x] = x := by
  simp [vtot, vadd]
theorem vtot2 (x y : Vt) : vtot [x, y] = vadd x y := by
  simp [vtot, vadd]
theorem held_due {c : LCfg} (ok : LOk c) {S Kn : Nat → Vt} (hS : ∀ k, NnV (S k)) (hle : ∀ k, LeV (S k) (Kn k)) :
    heldL c ((List.range c.areas.length).map S) ((List.range c.areas.length).map fun k => (Kn k).sum - (S k).sum) ((List.range c.areas.length).map Kn) = true ↔ Due c S Kn := by
  have l1 := ok.a1
  have l2 := ok.a2
  have hok := ok.areas
  have s0 := hS 0; have s1 := hS 1; have e0 := hle 0; have e1 := hle 1
  match hc : c.areas, l1, l2 with
  | [a], _, _ =>
    have oka : CfgOk a := hok a (by rw [hc]; simp)
    unfold Due heldL
    rw [hc, show List.range [a].length = [0] from rfl]
    simp only [List.map_cons, List.map_nil, List.zip_cons_cons, List.zip_nil_left, List.all_cons, List.all_nil, List.sum_cons, List.sum_nil, Bool.and_true, Bool.and_eq_true, Int.add_zero]
    have hE := heldE_iff (c := c) (sl := [S 0]) (kl := [Kn 0]) ok (by rw [vtot1]; exact s0) (by rw [vtot1, vtot1]; exact e0)
    rw [vtot1, vtot1] at hE
    rw [heldA_iff oka s0 e0, hE]
    have out : ∀ x, outL c [x] = ([I2 (outA a x)], I2 (outE c [x])) := fun x => by
      unfold outL
      rw [hc]
      rfl
    have had : ∀ x, hadL c [x] = ((outA a x).1, (outA a x).2) := fun x => by
      unfold hadL sum2
      rw [hc]
      simp
    constructor
    · rintro ⟨hA, hT⟩ V hV
      have hV0 := hV 0 (by simp)
      have h1 := hA (V 0) hV0.1 hV0.2
      have h2 := hT (V 0) hV0.1 hV0.2
      rw [out, out, h1]
      have h3 : outE c [V 0] = outE c [Kn 0] := by
        rw [← h2]
        show oc c.f c.st (want c.ht c.hb (vtot [V 0]).sum) (vtot [V 0]).a (vtot [V 0]).b c.ev (hadL c [V 0]).1 (hadL c [V 0]).2 = _
        rw [vtot1, hV0.2, had, had, h1]
      rw [h3]
    · intro all
      have key : ∀ v, LeV (S 0) v → v.sum = (Kn 0).sum → outA a v = outA a (Kn 0) ∧ outE c [v] = outE c [Kn 0] := fun v h1 h2 => by
        have := all (fun _ => v) fun k hk => by
          have : k = 0 := by simpa using hk
          subst this
          exact ⟨h1, h2⟩
        rw [out, out] at this
        have h3 := Prod.mk.inj this
        exact ⟨I2_inj (List.cons.inj h3.1).1, I2_inj h3.2⟩
      refine ⟨fun v h1 h2 => (key v h1 h2).1, fun t h1 h2 => ?_⟩
      obtain ⟨k1, k2⟩ := key t h1 h2
      rw [← k2]
      show _ = oc c.f c.st (want c.ht c.hb (vtot [t]).sum) (vtot [t]).a (vtot [t]).b c.ev (hadL c [t]).1 (hadL c [t]).2
      rw [vtot1, h2, had, had, k1]
  | [a, b], _, _ =>
    have oka : CfgOk a := hok a (by rw [hc]; simp)
    have okb : CfgOk b := hok b (by rw [hc]; simp)
    unfold Due heldL
    rw [hc, show List.range [a, b].length = [0, 1] from rfl]
    simp only [List.map_cons, List.map_nil, List.zip_cons_cons, List.zip_nil_left, List.all_cons, List.all_nil, List.sum_cons, List.sum_nil, Bool.and_true, Bool.and_eq_true, Int.add_zero]
    have a0 := s0.a; have a1 := s0.b; have a2 := s0.i; have b0 := s1.a; have b1 := s1.b; have b2 := s1.i
    have c0 := e0.a; have c1 := e0.b; have c2 := e0.i; have d0 := e1.a; have d1 := e1.b; have d2 := e1.i
    have hE := heldE_iff (c := c) (sl := [S 0, S 1]) (kl := [Kn 0, Kn 1]) ok (by rw [vtot2]; exact ⟨by simp only [vadd]; omega, by simp only [vadd]; omega, by simp only [vadd]; omega⟩) (by rw [vtot2, vtot2]; exact ⟨by simp only [vadd]; omega, by simp only [vadd]; omega, by simp only [vadd]; omega⟩)
    rw [vtot2, vtot2, vadd_sum, vadd_sum] at hE
    rw [heldA_iff oka s0 e0, heldA_iff okb s1 e1, show (Kn 0).sum - (S 0).sum + ((Kn 1).sum - (S 1).sum) = (Kn 0).sum + (Kn 1).sum - ((S 0).sum + (S 1).sum) by omega, hE]
    have out : ∀ x y, outL c [x, y] = ([I2 (outA a x), I2 (outA b y)], I2 (outE c [x, y])) := fun x y => by
      unfold outL
      rw [hc]
      rfl
    have had : ∀ x y, hadL c [x, y] = ((outA a x).1 + (outA b y).1, (outA a x).2 + (outA b y).2) := fun x y => by
      unfold hadL sum2
      rw [hc]
      simp
    constructor
    · rintro ⟨⟨hA, hB⟩, hT⟩ V hV
      have hV0 := hV 0 (by simp)
      have hV1 := hV 1 (by simp)
      have g0 := hV0.1.a; have g1 := hV0.1.b; have g2 := hV0.1.i; have g3 := hV1.1.a; have g4 := hV1.1.b; have g5 := hV1.1.i
      have h1 := hA (V 0) hV0.1 hV0.2
      have h2 := hB (V 1) hV1.1 hV1.2
      have h3 := hT (vadd (V 0) (V 1)) ⟨by simp only [vadd]; omega, by simp only [vadd]; omega, by simp only [vadd]; omega⟩ (by rw [vadd_sum, hV0.2, hV1.2])
      rw [out, out, h1, h2]
      have h4 : outE c [V 0, V 1] = outE c [Kn 0, Kn 1] := by
        rw [← h3]
        show oc c.f c.st (want c.ht c.hb (vtot [V 0, V 1]).sum) (vtot [V 0, V 1]).a (vtot [V 0, V 1]).b c.ev (hadL c [V 0, V 1]).1 (hadL c [V 0, V 1]).2 = _
        rw [vtot2, vadd_sum, hV0.2, hV1.2, had, had, h1, h2]
      rw [h4]
    · intro all
      have key : ∀ v w, LeV (S 0) v → v.sum = (Kn 0).sum → LeV (S 1) w → w.sum = (Kn 1).sum → outA a v = outA a (Kn 0) ∧ outA b w = outA b (Kn 1) ∧ outE c [v, w] = outE c [Kn 0, Kn 1] := fun v w h1 h2 h3 h4 => by
        have := all (fun k => if k = 0 then v else w) fun k hk => by
          have : k = 0 ∨ k = 1 := by
            have : k < 2 := hk
            omega
          rcases this with rfl | rfl
          · exact ⟨h1, h2⟩
          · exact ⟨h3, h4⟩
        rw [show (if (0 : Nat) = 0 then v else w) = v from rfl, show (if (1 : Nat) = 0 then v else w) = w from rfl, out, out] at this
        have h5 := Prod.mk.inj this
        have h6 := List.cons.inj h5.1
        exact ⟨I2_inj h6.1, I2_inj (List.cons.inj h6.2).1, I2_inj h5.2⟩
      refine ⟨⟨fun v h1 h2 => (key v (Kn 1) h1 h2 e1 rfl).1, fun w h1 h2 => (key (Kn 0) w e0 rfl h1 h2).2.1⟩, fun t h1 h2 => ?_⟩
      have t1 := h1.a; have t2 := h1.b; have t3 := h1.i
      simp only [vadd] at t1 t2 t3
      unfold Vt.sum at h2
      obtain ⟨x, y, z, q1, q2, q3, q4, q5, q6, q7⟩ : ∃ x y z : Int, 0 ≤ x ∧ 0 ≤ y ∧ 0 ≤ z ∧ x ≤ t.a - ((S 0).a + (S 1).a) ∧ y ≤ t.b - ((S 0).b + (S 1).b) ∧ z ≤ t.i - ((S 0).i + (S 1).i) ∧ x + y + z = (Kn 0).sum - (S 0).sum := by
        refine ⟨min (t.a - ((S 0).a + (S 1).a)) ((Kn 0).sum - (S 0).sum), min (t.b - ((S 0).b + (S 1).b)) ((Kn 0).sum - (S 0).sum - min (t.a - ((S 0).a + (S 1).a)) ((Kn 0).sum - (S 0).sum)),
          (Kn 0).sum - (S 0).sum - min (t.a - ((S 0).a + (S 1).a)) ((Kn 0).sum - (S 0).sum) - min (t.b - ((S 0).b + (S 1).b)) ((Kn 0).sum - (S 0).sum - min (t.a - ((S 0).a + (S 1).a)) ((Kn 0).sum - (S 0).sum)), ?_⟩
        unfold Vt.sum
        omega
      obtain ⟨k1, k2, k3⟩ := key ⟨(S 0).a + x, (S 0).b + y, (S 0).i + z⟩ ⟨t.a - ((S 0).a + x), t.b - ((S 0).b + y), t.i - ((S 0).i + z)⟩ ⟨by simp only; omega, by simp only; omega, by simp only; omega⟩
        (by unfold Vt.sum at q7 ⊢; simp only; omega) ⟨by simp only; omega, by simp only; omega, by simp only; omega⟩ (by unfold Vt.sum at q7 ⊢; simp only; omega)
      rw [← k3]
      show _ = oc c.f c.st (want c.ht c.hb (vtot [_, _]).sum) (vtot [_, _]).a (vtot [_, _]).b c.ev (hadL c [_, _]).1 (hadL c [_, _]).2
      have et : vtot [⟨(S 0).a + x, (S 0).b + y, (S 0).i + z⟩, ⟨t.a - ((S 0).a + x), t.b - ((S 0).b + y), t.i - ((S 0).i + z)⟩] = t := by
        rw [vtot2]
        unfold vadd
        cases t
        simp only [Vt.mk.injEq]
        omega
      rw [et, had, had, k1, k2]
      rw [show t.sum = (Kn 0).sum + (Kn 1).sum by unfold Vt.sum; omega]
theorem leV_pick {bs : List Bun} (h : BFew bs) (lot k : Nat) : LeV (areaSum (pick lot bs) k) (areaSum bs k) := by
  obtain ⟨h1, h2, h3⟩ := areaSum_sub (pick_sublist lot bs) h.s k
  exact ⟨h1, h2, h3⟩
theorem nnV_pick {bs : List Bun} (h : BFew bs) (lot k : Nat) : NnV (areaSum (pick lot bs) k) := by
  have := (areaSum_ok (pick_ok (lot := lot) h.ok) k).1
  exact ⟨this.a0, this.b0, this.i0⟩
theorem zip_range {α β : Type} (f : Nat → α) (g : Nat → β) (xs : List Nat) : (xs.map f).zip (xs.map g) = xs.map fun k => (f k, g k) := by
  induction xs with
  | nil => rfl
  | cons x xs ih => rw [List.map_cons, List.map_cons, List.map_cons, List.zip_cons_cons, ih]
theorem settlesB_iff {c : LCfg} {bs : List Bun} (ok : LOk c) (few : BFew bs) (lot : Nat) : settlesB c bs lot = true ↔ Due c (areaSum (pick lot bs)) (areaSum bs) := by
  rw [← held_due ok (nnV_pick few lot) (leV_pick few lot)]
  unfold settlesB shs
  rw [zip_range, List.map_map]
  rfl
theorem settlesL_iff {c : LCfg} {bs : List Bun} (ok : LOk c) (few : BFew bs) (lot : Nat) : settlesL c bs lot = true ↔ Due c (areaSum (pick lot bs)) (areaSum bs) := by
  unfold settlesL Due
  rw [List.all_eq_true]
  constructor
  · intro all V hV
    have hlv : ∀ k < c.areas.length, vOf (Vt.l ⟨(V k).a - (areaSum (pick lot bs) k).a, (V k).b - (areaSum (pick lot bs) k).b, (V k).i - (areaSum (pick lot bs) k).i⟩) = ⟨(V k).a - (areaSum (pick lot bs) k).a, (V k).b - (areaSum (pick lot bs) k).b, (V k).i - (areaSum (pick lot bs) k).i⟩ := fun k _ => rfl
    have h := all ((List.range c.areas.length).map fun k => Vt.l ⟨(V k).a - (areaSum (pick lot bs) k).a, (V k).b - (areaSum (pick lot bs) k).b, (V k).i - (areaSum (pick lot bs) k).i⟩) ((fills_mem _ _).mpr ?_)
    · have h := of_decide_eq_true h
      rw [show laterL (shs c.areas.length (pick lot bs)) ((List.range c.areas.length).map fun k => Vt.l ⟨(V k).a - (areaSum (pick lot bs) k).a, (V k).b - (areaSum (pick lot bs) k).b, (V k).i - (areaSum (pick lot bs) k).i⟩) = (List.range c.areas.length).map V from ?_] at h
      · exact h
      · unfold laterL shs
        rw [zip_range, List.map_map]
        refine List.map_congr_left fun k hk => ?_
        show vadd (areaSum (pick lot bs) k) ⟨(V k).a - (areaSum (pick lot bs) k).a, (V k).b - (areaSum (pick lot bs) k).b, (V k).i - (areaSum (pick lot bs) k).i⟩ = V k
        unfold vadd
        cases V k
        simp only [Vt.mk.injEq]
        omega
    · unfold unsL
      have gen : ∀ xs : List Nat, (∀ k ∈ xs, k < c.areas.length) → All2 (fun (r : List Int) u => r ∈ partsL (Int.toNat u) 2) (xs.map fun k => Vt.l ⟨(V k).a - (areaSum (pick lot bs) k).a, (V k).b - (areaSum (pick lot bs) k).b, (V k).i - (areaSum (pick lot bs) k).i⟩) (xs.map fun k => (areaSum bs k).sum - (areaSum (pick lot bs) k).sum) := by
        intro xs
        induction xs with
        | nil => intro _; exact .nil
        | cons k xs ih =>
          intro hx
          refine .cons ?_ (ih fun j hj => hx j (List.mem_cons_of_mem _ hj))
          obtain ⟨h1, h2⟩ := hV k (hx k List.mem_cons_self)
          have g1 := h1.a; have g2 := h1.b; have g3 := h1.i
          unfold Vt.sum at *
          refine (partsL_mem 2 _ _).mpr ⟨rfl, fun x hx => ?_, ?_⟩
          · simp only [Vt.l, List.mem_cons, List.not_mem_nil, or_false] at hx
            omega
          · simp only [Vt.l, List.sum_cons, List.sum_nil]
            omega
      exact gen _ fun k hk => List.mem_range.mp hk
  · intro due rows hrows
    have ha := (fills_mem _ _).mp hrows
    have hl := ha.length
    unfold unsL at ha hl
    rw [List.length_map, List.length_range] at hl
    have hk : ∀ k < c.areas.length, 0 ≤ (vOf (rows.getD k [])).a ∧ 0 ≤ (vOf (rows.getD k [])).b ∧ 0 ≤ (vOf (rows.getD k [])).i ∧ (vOf (rows.getD k [])).sum = (areaSum bs k).sum - (areaSum (pick lot bs) k).sum := fun k hk => by
      have hr : rows[k]? = some (rows.getD k []) := by
        rw [List.getD_eq_getElem?_getD, List.getElem?_eq_getElem (by omega)]
        rfl
      obtain ⟨u, hu, hp⟩ := ha.getL hr
      have : u = (areaSum bs k).sum - (areaSum (pick lot bs) k).sum := by
        rw [List.getElem?_map, List.getElem?_range hk] at hu
        exact (Option.some.inj hu).symm
      obtain ⟨_, b1, b2, b3, b4, _⟩ := parts3 hp
      have h1 := leV_pick few lot k
      have g1 := h1.a; have g2 := h1.b; have g3 := h1.i
      refine ⟨b1, b2, b3, ?_⟩
      rw [b4, this]
      unfold Vt.sum
      omega
    have h := due (fun k => vadd (areaSum (pick lot bs) k) (vOf (rows.getD k []))) fun k hk' => by
      obtain ⟨b1, b2, b3, b4⟩ := hk k hk'
      refine ⟨⟨by simp only [vadd]; omega, by simp only [vadd]; omega, by simp only [vadd]; omega⟩, ?_⟩
      rw [vadd_sum, b4]
      omega
    refine decide_eq_true ?_
    rw [show laterL (shs c.areas.length (pick lot bs)) rows = (List.range c.areas.length).map (fun k => vadd (areaSum (pick lot bs) k) (vOf (rows.getD k []))) from ?_]
    · exact h
    · unfold laterL shs
      have er : rows = (List.range c.areas.length).map fun k => rows.getD k [] := by
        refine List.ext_getElem (by rw [List.length_map, List.length_range, hl]) fun i h1 h2 => ?_
        rw [List.getElem_map, List.getElem_range, List.getD_eq_getElem?_getD, List.getElem?_eq_getElem h1]
        rfl
      generalize hg : (fun k => rows.getD k []) = g at er ⊢
      have hg' : ∀ k, rows.getD k [] = g k := fun k => by rw [← hg]
      conv => lhs; rw [er]
      rw [zip_range, List.map_map]
      refine List.map_congr_left fun k _ => ?_
      show vadd _ (vOf (g k)) = vadd _ (vOf (rows.getD k []))
      rw [hg']
theorem settles_eq {c : LCfg} {bs : List Bun} (ok : LOk c) (few : BFew bs) (lot : Nat) : settlesB c bs lot = settlesL c bs lot := Bool.eq_iff_iff.mpr ((settlesB_iff ok few lot).trans (settlesL_iff ok few lot).symm)
end Wp


set_option Elab.async false
set_option linter.all false
set_option maxRecDepth 100000
set_option maxHeartbeats 4000000
namespace Wp
open PySem PySem.Spec PyProof.Rows L2
/-! ## the plain law: lots -/
/-- o lies in l -/
def Sub (o l : Nat) : Prop := ∀ i, o.testBit i = true → l.testBit i = true
theorem sub_iff {o l : Nat} : o &&& l = o ↔ Sub o l := by
  constructor
  · intro h i hi
    rw [← h, Nat.testBit_and, Bool.and_eq_true] at hi
    exact hi.2
  · intro h
    refine Nat.eq_of_testBit_eq fun i => ?_
    rw [Nat.testBit_and]
    cases hi : o.testBit i with
    | false => rfl
    | true => rw [h i hi]; rfl
theorem Sub.trans {a b c : Nat} (h1 : Sub a b) (h2 : Sub b c) : Sub a c := fun i hi => h2 i (h1 i hi)
theorem Sub.le {o l : Nat} (h : Sub o l) : o ≤ l := by
  rw [← sub_iff.mpr h]
  exact Nat.and_le_right
theorem filter_sub {α : Type} {p q : α → Bool} (h : ∀ x, p x = true → q x = true) (xs : List α) : List.Sublist (xs.filter p) (xs.filter q) := by
  have e : xs.filter p = (xs.filter q).filter p := by
    rw [List.filter_filter]
    refine List.filter_congr fun x _ => ?_
    cases hp : p x with
    | false => rfl
    | true => rw [h x hp]; rfl
  rw [e]
  exact List.filter_sublist
theorem pick_mono {o l : Nat} (h : Sub o l) (bs : List Bun) : List.Sublist (pick o bs) (pick l bs) := by
  unfold pick
  exact (filter_sub (p := fun p : Nat × Bun => o.testBit p.1) (q := fun p : Nat × Bun => l.testBit p.1) (fun p => h p.1) ((List.range bs.length).zip bs)).map fun p : Nat × Bun => p.2
section
variable {c : LCfg} {bs : List Bun}
theorem settles_mono (ok : LOk c) (few : BFew bs) {o l : Nat} (h : Sub o l) (ho : settlesB c bs o = true) : settlesB c bs l = true := by
  rw [settlesB_iff ok few] at ho ⊢
  intro V hV
  refine ho V fun k hk => ⟨?_, (hV k hk).2⟩
  obtain ⟨h1, h2, h3⟩ := areaSum_sub (pick_mono h bs) (fun b hb => few.s b (pick_sub hb)) k
  have := (hV k hk).1
  have g1 := this.a; have g2 := this.b; have g3 := this.i
  exact ⟨by omega, by omega, by omega⟩
theorem pick_full (bs : List Bun) : pick (2 ^ bs.length - 1) bs = bs := by
  unfold pick
  rw [List.filter_eq_self.mpr fun p hp => ?_]
  · exact List.map_snd_zip (by rw [List.length_range]; exact Nat.le_refl _)
  · have := List.mem_range.mp (List.of_mem_zip (show (p.1, p.2) ∈ _ from hp)).1
    rw [Nat.testBit_two_pow_sub_one]
    exact decide_eq_true this
theorem settles_full (ok : LOk c) (few : BFew bs) : settlesB c bs (2 ^ bs.length - 1) = true := by
  rw [settlesB_iff ok few, pick_full]
  intro V hV
  congr 1
  refine List.map_congr_left fun k hk => ?_
  obtain ⟨h1, h2⟩ := hV k (List.mem_range.mp hk)
  have g1 := h1.a; have g2 := h1.b; have g3 := h1.i
  unfold Vt.sum at h2
  generalize V k = v at *
  generalize areaSum bs k = a at *
  cases v
  cases a
  simp only at *
  simp only [Vt.mk.injEq]
  omega
end
theorem least_below (S : List Nat) : ∀ (n l : Nat), l ≤ n → l ∈ S → ∃ o, o ∈ leastL S ∧ Sub o l
  | 0, l, hl, h => by
    have : l = 0 := by omega
    subst this
    refine ⟨0, List.mem_filter.mpr ⟨h, ?_⟩, fun i hi => hi⟩
    rw [Bool.not_eq_true', List.any_eq_false]
    intro o ho
    by_cases e : o &&& 0 = o
    · have : o = 0 := by rw [← e]; exact Nat.and_zero o
      simp [this]
    · rw [decide_eq_false e]
      simp
  | n + 1, l, hl, h => by
    by_cases hm : l ∈ leastL S
    · exact ⟨l, hm, fun i hi => hi⟩
    · have : ∃ o ∈ S, (o &&& l = o) ∧ o ≠ l := by
        have hn : ¬ ((!(S.any fun o => decide (o &&& l = o) && !decide (o = l))) = true) := fun z => hm (List.mem_filter.mpr ⟨h, z⟩)
        rw [Bool.not_eq_true', Bool.not_eq_false] at hn
        obtain ⟨o, ho, hh⟩ := List.any_eq_true.mp hn
        simp only [Bool.and_eq_true, decide_eq_true_eq, Bool.not_eq_true', decide_eq_false_iff_not] at hh
        exact ⟨o, ho, hh.1, hh.2⟩
      obtain ⟨o, ho, hsub, hne⟩ := this
      have hs := sub_iff.mp hsub
      have := hs.le
      obtain ⟨o', h1, h2⟩ := least_below S n o (by omega) ho
      exact ⟨o', h1, h2.trans hs⟩
theorem leastL_mem {S : List Nat} {l : Nat} : l ∈ leastL S ↔ l ∈ S ∧ ∀ o ∈ S, Sub o l → o = l := by
  unfold leastL
  rw [List.mem_filter, Bool.not_eq_true', List.any_eq_false]
  refine and_congr Iff.rfl ⟨fun h o ho hs => ?_, fun h o ho => ?_⟩
  · have := h o ho
    rcases Decidable.em (o = l) with e | e
    · exact e
    · exact absurd (by simp [sub_iff.mpr hs, e]) this
  · by_cases e : o &&& l = o
    · have := h o ho (sub_iff.mp e)
      simp [this]
    · simp [e]
section
variable {c : LCfg} {bs : List Bun}
theorem settling_mem {l : Nat} : l ∈ settlingL c bs ↔ l < 2 ^ bs.length ∧ settlesB c bs l = true := by
  unfold settlingL
  rw [List.mem_filter, List.mem_range]
theorem pow_pos' (n : Nat) : 0 < 2 ^ n := Nat.pos_of_ne_zero (by simp)
theorem least_ne (ok : LOk c) (few : BFew bs) : leastL (settlingL c bs) ≠ [] := by
  have hp := pow_pos' bs.length
  obtain ⟨o, ho, _⟩ := least_below (settlingL c bs) _ (2 ^ bs.length - 1) (Nat.le_refl _) (settling_mem.mpr ⟨by omega, settles_full ok few⟩)
  exact fun e => by
    rw [e] at ho
    cases ho
theorem min_eq (D : Nat → Bool) (hD : D = settlesB c bs) : leastL (settlingL c bs) = minP (goodP bs.length D) := by
  subst hD
  unfold leastL minP goodP settlingL lessB
  congr 1
  funext l
  congr 2
  funext o
  exact Bool.and_comm ..
theorem open_eq (D : Nat → Bool) (hD : D = settlesB c bs) : openL bs.length (settlingL c bs) = badP bs.length D := by
  subst hD
  unfold openL badP
  refine List.filter_congr fun l hl => ?_
  have hl := List.mem_range.mp hl
  cases h : settlesB c bs l with
  | true =>
    rw [decide_eq_true (settling_mem.mpr ⟨hl, h⟩)]
  | false =>
    rw [decide_eq_false fun z => by
      have := (settling_mem.mp z).2
      rw [h] at this
      cases this]
theorem max_eq (D : Nat → Bool) (hD : D = settlesB c bs) : greatL (openL bs.length (settlingL c bs)) = maxP (badP bs.length D) := by
  rw [open_eq D hD]
  unfold greatL maxP lessB
  congr 1
  funext l
  congr 2
  funext o
  rw [Bool.and_comm]
  congr 2
  exact decide_eq_decide.mpr ⟨fun e => e.symm, fun e => e.symm⟩
theorem out_apart (ok : LOk c) (few : BFew bs) : ∀ o ∈ leastL (settlingL c bs), ∀ l ∈ greatL (openL bs.length (settlingL c bs)), o &&& l ≠ o := by
  intro o ho l hl e
  have h1 := (settling_mem.mp (leastL_mem.mp ho).1).2
  have h2 := settles_mono ok few (sub_iff.mp e) h1
  have h3 := (List.mem_filter.mp hl).1
  unfold openL at h3
  obtain ⟨h4, h5⟩ := List.mem_filter.mp h3
  have h6 := settling_mem.mpr ⟨List.mem_range.mp h4, h2⟩
  simp [h6] at h5
theorem must_bit (n : Nat) (L : List Nat) (k : Nat) : (mustL n L).testBit k = (decide (k < n) && L.all fun o => o.testBit k) := by
  have gen : ∀ (L : List Nat) (a : Nat), (L.foldl (fun a b => a &&& b) a).testBit k = (a.testBit k && L.all fun o => o.testBit k) := by
    intro L
    induction L with
    | nil => intro a; simp
    | cons o L ih =>
      intro a
      rw [List.foldl_cons, ih, Nat.testBit_and, List.all_cons, Bool.and_assoc]
  unfold mustL
  rw [gen, Nat.testBit_two_pow_sub_one]
theorem all_but : ∀ n ≤ 4, ∀ k < n, ∀ i < n, (2 ^ n - 1 - 2 ^ k).testBit i = !decide (i = k) := by decide
theorem look_bit (ok : LOk c) (few : BFew bs) (hn : bs.length ≤ 4) (k : Nat) (hk : k < bs.length) : (mustL bs.length (leastL (settlingL c bs))).testBit k ≠ settlesB c bs (2 ^ bs.length - 1 - 2 ^ k) := by
  have hp := pow_pos' bs.length
  rw [must_bit, decide_eq_true hk, Bool.true_and]
  cases hD : settlesB c bs (2 ^ bs.length - 1 - 2 ^ k) with
  | true =>
    have hlt : 2 ^ bs.length - 1 - 2 ^ k < 2 ^ bs.length := by
      generalize 2 ^ bs.length = a at hp
      generalize 2 ^ k = b
      omega
    obtain ⟨o, ho, hs⟩ := least_below (settlingL c bs) _ _ (Nat.le_refl _) (settling_mem.mpr ⟨hlt, hD⟩)
    intro e
    have h1 := List.all_eq_true.mp e o ho
    have h2 := hs k h1
    rw [all_but _ hn k hk k hk] at h2
    simp at h2
  | false =>
    intro e
    obtain ⟨o, ho, hb⟩ := List.all_eq_false.mp e
    have hos := settling_mem.mp (leastL_mem.mp ho).1
    have hs : Sub o (2 ^ bs.length - 1 - 2 ^ k) := fun i hi => by
      have hin : i < bs.length := by
        rcases Nat.lt_or_ge i bs.length with h | h
        · exact h
        · rw [Nat.testBit_lt_two_pow (Nat.lt_of_lt_of_le hos.1 (Nat.pow_le_pow_right (by decide) h))] at hi
          cases hi
      rw [all_but _ hn k hk i hin]
      by_cases e : i = k
      · subst e
        exact absurd hi hb
      · simp [e]
    rw [settles_mono ok few hs hos.2] at hD
    cases hD
end
/-! ### another order of the bundles -/
def binL (n : Nat) (p : Nat → Bool) : Nat := (((List.range n).filter p).map fun i => 2 ^ i).sum
theorem binL_succ (n : Nat) (p : Nat → Bool) : binL (n + 1) p = (if p n then 2 ^ n else 0) + binL n p := by
  unfold binL
  rw [List.range_succ, List.filter_append, List.map_append, List.sum_append]
  by_cases h : p n
  · simp [h, Nat.add_comm]
  · simp [h]
theorem binL_lt : ∀ (n : Nat) (p : Nat → Bool), binL n p < 2 ^ n
  | 0, _ => Nat.zero_lt_one
  | n + 1, p => by
    rw [binL_succ, Nat.pow_succ]
    have := binL_lt n p
    split <;> omega
theorem binL_bit : ∀ (n : Nat) (p : Nat → Bool) (i : Nat), (binL n p).testBit i = (decide (i < n) && p i)
  | 0, p, i => by
    rw [show binL 0 p = 0 from rfl]
    simp
  | n + 1, p, i => by
    have hlt := binL_lt n p
    rw [binL_succ]
    rcases Nat.lt_trichotomy i n with h | h | h
    · have ih := binL_bit n p i
      rw [decide_eq_true h] at ih
      rw [decide_eq_true (show i < n + 1 by omega), ← ih]
      split
      · exact Nat.testBit_two_pow_add_gt h _
      · rw [Nat.zero_add]
    · subst h
      rw [decide_eq_true (show i < i + 1 by omega), Bool.true_and]
      split
      · rename_i hp
        rw [Nat.testBit_two_pow_add_eq, Nat.testBit_lt_two_pow hlt, hp]
        rfl
      · rename_i hp
        rw [Nat.zero_add, Nat.testBit_lt_two_pow hlt]
        simpa using hp
    · rw [decide_eq_false (show ¬ i < n + 1 by omega), Bool.false_and]
      refine Nat.testBit_lt_two_pow (Nat.lt_of_lt_of_le (?_ : _ < 2 ^ (n + 1)) (Nat.pow_le_pow_right (by decide) h))
      rw [Nat.pow_succ]
      split <;> omega
theorem zip_getD {α : Type} (xs : List α) (d : α) : (List.range xs.length).zip xs = (List.range xs.length).map fun i => (i, xs.getD i d) := by
  refine List.ext_getElem (by simp) fun i h1 h2 => ?_
  rw [List.getElem_zip, List.getElem_map, List.getElem_range]
  have hi : i < xs.length := by simpa using h1
  rw [List.getD_eq_getElem?_getD, List.getElem?_eq_getElem hi]
  rfl
theorem list_getD {α : Type} (xs : List α) (d : α) : xs = (List.range xs.length).map fun i => xs.getD i d := by
  have h := congrArg (List.map (·.2)) (zip_getD xs d)
  rw [List.map_snd_zip (by rw [List.length_range]; exact Nat.le_refl _), List.map_map] at h
  exact h
theorem pick_eq (lot : Nat) (bs : List Bun) (d : Bun) : pick lot bs = ((List.range bs.length).filter fun i => lot.testBit i).map fun i => bs.getD i d := by
  unfold pick
  rw [zip_getD bs d, List.filter_map, List.map_map]
  rfl
theorem moved_eq (l : Nat) (order : List Nat) : movedL l order = binL order.length fun i => l.testBit (order.getD i 0) := by
  unfold movedL binL
  rw [zip_getD order 0, List.filter_map, List.map_map]
  rfl
theorem vtot_perm {xs ys : List Vt} (h : xs.Perm ys) : vtot xs = vtot ys := by
  induction h with
  | nil => rfl
  | cons x _ ih => rw [vtot_cons, vtot_cons, ih]
  | swap x y l =>
    rw [vtot_cons, vtot_cons, vtot_cons, vtot_cons]
    simp only [vadd, Vt.mk.injEq]
    omega
  | trans _ _ i1 i2 => rw [i1, i2]
theorem areaSum_perm {xs ys : List Bun} (h : xs.Perm ys) (k : Nat) : areaSum xs k = areaSum ys k := vtot_perm ((h.filter _).map _)
section
variable {c : LCfg} {bs : List Bun} {order : List Nat}
theorem order_perm (hp : order.Perm (List.range bs.length)) (d : Bun) : (order.map fun k => bs.getD k d).Perm bs := by
  have h := hp.map fun k => bs.getD k d
  rw [← list_getD bs d] at h
  exact h
theorem few_order (few : BFew bs) (hp : order.Perm (List.range bs.length)) (d : Bun) : BFew (order.map fun k => bs.getD k d) := by
  have h := order_perm hp d
  exact ⟨by rw [h.length_eq]; exact few.l, fun b hb => few.s b (h.mem_iff.mp hb), fun b hb => few.t b (h.mem_iff.mp hb)⟩
theorem pick_order (hp : order.Perm (List.range bs.length)) (d : Bun) (l : Nat) : (pick (movedL l order) (order.map fun k => bs.getD k d)).Perm (pick l bs) := by
  have hl : order.length = bs.length := by rw [hp.length_eq, List.length_range]
  rw [pick_eq _ _ d, pick_eq l bs d, List.length_map]
  have e : ((List.range order.length).filter fun i => (movedL l order).testBit i).map (fun i => (order.map fun k => bs.getD k d).getD i d) = (order.filter fun k => l.testBit k).map fun k => bs.getD k d := by
    conv => rhs; rw [list_getD order 0]
    rw [List.filter_map, List.map_map]
    have e1 : ((List.range order.length).filter fun i => (movedL l order).testBit i) = (List.range order.length).filter ((fun k => l.testBit k) ∘ fun i => order.getD i 0) := by
      refine List.filter_congr fun i hi => ?_
      rw [moved_eq, binL_bit, decide_eq_true (List.mem_range.mp hi), Bool.true_and]
      rfl
    rw [e1]
    refine List.map_congr_left fun i hi => ?_
    have hi := List.mem_range.mp (List.mem_filter.mp hi).1
    show (order.map fun k => bs.getD k d).getD i d = bs.getD (order.getD i 0) d
    rw [List.getD_eq_getElem?_getD, List.getElem?_map, List.getD_eq_getElem?_getD (l := order), List.getElem?_eq_getElem hi]
    rfl
  rw [e]
  exact (hp.filter _).map _
theorem settles_order (ok : LOk c) (few : BFew bs) (hp : order.Perm (List.range bs.length)) (d : Bun) (l : Nat) : settlesB c (order.map fun k => bs.getD k d) (movedL l order) = settlesB c bs l := by
  refine Bool.eq_iff_iff.mpr ?_
  rw [settlesB_iff ok (few_order few hp d), settlesB_iff ok few]
  rw [show areaSum (pick (movedL l order) (order.map fun k => bs.getD k d)) = areaSum (pick l bs) from funext fun k => areaSum_perm (pick_order hp d l) k,
    show areaSum (order.map fun k => bs.getD k d) = areaSum bs from funext fun k => areaSum_perm (order_perm hp d) k]
theorem moved_sub (hp : order.Perm (List.range bs.length)) {o l : Nat} (ho : o < 2 ^ bs.length) : Sub (movedL o order) (movedL l order) ↔ Sub o l := by
  have hl : order.length = bs.length := by rw [hp.length_eq, List.length_range]
  constructor
  · intro h k hk
    have hkn : k < bs.length := by
      rcases Nat.lt_or_ge k bs.length with h | h
      · exact h
      · rw [Nat.testBit_lt_two_pow (Nat.lt_of_lt_of_le ho (Nat.pow_le_pow_right (by decide) h))] at hk
        cases hk
    obtain ⟨i, hi, e⟩ := List.getElem_of_mem (hp.mem_iff.mpr (List.mem_range.mpr hkn))
    have eg : order.getD i 0 = k := by
      rw [List.getD_eq_getElem?_getD, List.getElem?_eq_getElem hi]
      exact e
    have := h i
    rw [moved_eq, moved_eq, binL_bit, binL_bit, decide_eq_true hi, Bool.true_and, Bool.true_and, eg] at this
    exact this hk
  · intro h i hi
    rw [moved_eq, binL_bit, Bool.and_eq_true] at hi ⊢
    exact ⟨hi.1, h _ hi.2⟩
theorem moved_lt (hp : order.Perm (List.range bs.length)) (l : Nat) : movedL l order < 2 ^ bs.length := by
  have hl : order.length = bs.length := by rw [hp.length_eq, List.length_range]
  rw [moved_eq, ← hl]
  exact binL_lt _ _
theorem sub_antisymm {a b : Nat} (h1 : Sub a b) (h2 : Sub b a) : a = b := Nat.le_antisymm h1.le h2.le
theorem moved_inj (hp : order.Perm (List.range bs.length)) {o l : Nat} (ho : o < 2 ^ bs.length) (hl : l < 2 ^ bs.length) (e : movedL o order = movedL l order) : o = l :=
  sub_antisymm ((moved_sub hp ho).mp (by rw [e]; exact fun i hi => hi)) ((moved_sub hp hl).mp (by rw [e]; exact fun i hi => hi))
theorem moved_surj (hp : order.Perm (List.range bs.length)) {m : Nat} (hm : m < 2 ^ bs.length) : ∃ l, l < 2 ^ bs.length ∧ movedL l order = m := by
  have hl : order.length = bs.length := by rw [hp.length_eq, List.length_range]
  have nd : order.Nodup := hp.nodup_iff.mpr List.nodup_range
  refine ⟨binL bs.length fun k => m.testBit (order.idxOf k), binL_lt _ _, Nat.eq_of_testBit_eq fun i => ?_⟩
  rw [moved_eq, binL_bit]
  by_cases hi : i < order.length
  · have hmem : order.getD i 0 ∈ order := by
      rw [List.getD_eq_getElem?_getD, List.getElem?_eq_getElem hi]
      exact List.getElem_mem hi
    have hlt : order.getD i 0 < bs.length := List.mem_range.mp (hp.mem_iff.mp hmem)
    rw [decide_eq_true hi, Bool.true_and, binL_bit, decide_eq_true hlt, Bool.true_and]
    have : order.idxOf (order.getD i 0) = i := by
      rw [List.getD_eq_getElem?_getD, List.getElem?_eq_getElem hi]
      exact nd.idxOf_getElem i hi
    rw [this]
  · rw [decide_eq_false hi, Bool.false_and]
    exact (Nat.testBit_lt_two_pow (Nat.lt_of_lt_of_le hm (Nat.pow_le_pow_right (by decide) (by omega)))).symm
theorem least_order (ok : LOk c) (few : BFew bs) (hp : order.Perm (List.range bs.length)) (d : Bun) (m : Nat) :
    m ∈ leastL (settlingL c (order.map fun k => bs.getD k d)) ↔ m ∈ (leastL (settlingL c bs)).map fun l => movedL l order := by
  have hl : (order.map fun k => bs.getD k d).length = bs.length := by rw [List.length_map, hp.length_eq, List.length_range]
  rw [List.mem_map, leastL_mem, settling_mem, hl]
  constructor
  · rintro ⟨⟨h1, h2⟩, h3⟩
    obtain ⟨l, hl1, rfl⟩ := moved_surj hp h1
    rw [settles_order ok few hp d] at h2
    refine ⟨l, leastL_mem.mpr ⟨settling_mem.mpr ⟨hl1, h2⟩, fun o ho hs => ?_⟩, rfl⟩
    obtain ⟨o1, o2⟩ := settling_mem.mp ho
    exact moved_inj hp o1 hl1 (h3 (movedL o order) (settling_mem.mpr ⟨by rw [hl]; exact moved_lt hp o, by rw [settles_order ok few hp d]; exact o2⟩) ((moved_sub hp o1).mpr hs))
  · rintro ⟨l, h, rfl⟩
    obtain ⟨h1, h2⟩ := leastL_mem.mp h
    obtain ⟨h3, h4⟩ := settling_mem.mp h1
    refine ⟨⟨moved_lt hp l, by rw [settles_order ok few hp d]; exact h4⟩, fun o ho hs => ?_⟩
    obtain ⟨o1, o2⟩ := settling_mem.mp ho
    rw [hl] at o1
    obtain ⟨o', ho', rfl⟩ := moved_surj hp o1
    rw [settles_order ok few hp d] at o2
    rw [h2 o' (settling_mem.mpr ⟨ho', o2⟩) ((moved_sub hp ho').mp hs)]
theorem sorted_uniq : ∀ {xs ys : List Int}, xs.Perm ys → xs.Pairwise (· ≤ ·) → ys.Pairwise (· ≤ ·) → xs = ys
  | [], ys, h, _, _ => (List.Perm.eq_nil h.symm).symm
  | x :: xs, [], h, _, _ => absurd h.length_eq (by simp)
  | x :: xs, y :: ys, h, hx, hy => by
    rw [List.pairwise_cons] at hx hy
    have e : x = y := by
      have h1 := h.mem_iff.mp (List.mem_cons_self (a := x) (l := xs))
      have h2 := h.mem_iff.mpr (List.mem_cons_self (a := y) (l := ys))
      rcases List.mem_cons.mp h1 with e | h1
      · exact e
      · rcases List.mem_cons.mp h2 with e | h2
        · exact e.symm
        · have := hx.1 y h2
          have := hy.1 x h1
          omega
    subst e
    rw [sorted_uniq h.cons_inv hx.2 hy.2]
theorem least_sorted (S : List Nat) (n : Nat) (p : Nat → Bool) (h : S = (List.range n).filter p) : (leastL S).Pairwise (· < ·) := by
  subst h
  unfold leastL
  exact (List.pairwise_lt_range.filter _).filter _
theorem order_law (ok : LOk c) (few : BFew bs) (hp : order.Perm (List.range bs.length)) (d : Bun) {ns : List Int} (hns : ns.Perm ((leastL (settlingL c bs)).map fun l => ((movedL l order : Nat) : Int))) (hs : ns.Pairwise (· ≤ ·)) :
    (leastL (settlingL c (order.map fun k => bs.getD k d))).map (fun n : Nat => (n : Int)) = ns := by
  have s1 := least_sorted (settlingL c (order.map fun k => bs.getD k d)) _ _ rfl
  have s2 := least_sorted (settlingL c bs) _ _ rfl
  have nd1 : (leastL (settlingL c (order.map fun k => bs.getD k d))).Nodup := s1.imp fun h => Nat.ne_of_lt h
  have nd2 : ((leastL (settlingL c bs)).map fun l => movedL l order).Nodup := by
    rw [List.Nodup, List.pairwise_map]
    refine List.Pairwise.imp_of_mem (fun {a b} ha hb hlt e => ?_) s2
    have h1 := (settling_mem.mp (leastL_mem.mp ha).1).1
    have h2 := (settling_mem.mp (leastL_mem.mp hb).1).1
    have := moved_inj hp h1 h2 e
    omega
  have hperm : (leastL (settlingL c (order.map fun k => bs.getD k d))).Perm ((leastL (settlingL c bs)).map fun l => movedL l order) := (List.perm_ext_iff_of_nodup nd1 nd2).mpr fun m => least_order ok few hp d m
  refine sorted_uniq ?_ ?_ hs
  · have h1 := hperm.map fun n : Nat => (n : Int)
    rw [List.map_map] at h1
    exact h1.trans hns.symm
  · rw [List.pairwise_map]
    exact s1.imp fun h => by omega
end
end Wp


set_option Elab.async false
set_option linter.all false
set_option maxRecDepth 100000
set_option maxHeartbeats 4000000
namespace Wp
open PySem PySem.Spec PyProof.Rows L2
/-! ### a comprehension over range(n) whose turns draw from the bag -/
section
variable {β : Type} {S : Hp → V → β → Prop} [Mono S] {K : PySem.W.Frag}
theorem lc_rngB {g : TG} {te : TE} {vs : List Nat} {σ : L2.St} {F H0 F1 H1 : Hp} {bg : Addr} {Q : VK} {n : Nat} (B : Bg K F H0 F1 H1 bg) (hn : n ≤ 1000)
    (turn : ∀ (i : Nat) (F2 H2 : Hp) (Z : V → Hp → Prop), i < n → Same F1 F2 → Bg K F H0 F2 H2 bg → (∀ w z F4 H4, Bg K F2 (hide bg H2) F4 H4 bg → S F4 w z → Z w H4) → g (.int (i : Int)) (wipe σ vs) H2 fun σ2 H3 => wipe σ2 vs = wipe σ vs ∧ te σ2 H3 Z)
    (done : ∀ D xs F2 H2, xs.length = n → Same F1 F2 → Bg K F H0 F2 H2 bg → LstX S F2 (.ref D) xs → Q (.ref D) H2) : LcR g tYes te vs σ Q [.int (n : Int)] H1 := by
  refine ⟨n, rfl, by omega, by omega, fun D hD => ?_⟩
  have hne : D ≠ bg := B.ne hD
  have o : Own F H0 F1 (upd H1 D (.lst [])) D [] := Own.mk' B.x hD
  have B1 := B.step ((Xt.refl B.x.sub).newH (o := .lst []) hD)
  refine ⟨fun i m H' => m = n - i ∧ i ≤ n ∧ ∃ F2 acc xs, Same F1 F2 ∧ Bg K F H0 F2 H' bg ∧ Own F H0 F2 H' D acc ∧ All2 (S F2) acc xs ∧ xs.length = i, ⟨_, rfl, Nat.zero_le _, F1, [], [], Same.refl _, B1, o, .nil, rfl⟩, ?_⟩
  rintro i m H' ⟨rfl, hi, F2, acc, xs, s12, B, o, ha, hl⟩
  have hal := ha.length
  by_cases hlt : i < n
  · refine .inr ⟨by show i < (n : Int).toNat; omega, fun H5 => i + 1 ≤ n ∧ ∃ F2 acc xs, Same F1 F2 ∧ Bg K F H0 F2 H5 bg ∧ Own F H0 F2 H5 D acc ∧ All2 (S F2) acc xs ∧ xs.length = i + 1, fun H5 h5 => ⟨n - (i + 1), by omega, rfl, h5⟩, fun x H2 hy => ?_⟩
    obtain ⟨e, ev⟩ := hy
    subst e
    have ev2 : x = .int (i : Int) := by rw [ev, Int.zero_add]
    subst ev2
    have h := turn i F2 _ (fun y H4 => ∃ acc, H4 D = some (.lst acc) ∧ acc.length < sizeLine ∧ (fun H5 => i + 1 ≤ n ∧ ∃ F2 acc xs, Same F1 F2 ∧ Bg K F H0 F2 H5 bg ∧ Own F H0 F2 H5 D acc ∧ All2 (S F2) acc xs ∧ xs.length = i + 1) (upd H4 D (.lst (acc ++ [y])))) hlt s12 B fun w z F4 H4 B' hS => by
      have o4 := o.bag hne B B'
      have B4 := B.call B'
      refine ⟨acc, o4.e, small1000 (by omega), hlt, F4, _, xs ++ [z], s12.trans B'.x.ff, B4.put o4 hne, o4.set, (ha.imp fun _ _ r => Mono.mono B'.x.ff r).snoc hS, by rw [List.length_append, hl]; rfl⟩
    exact h
  · have e : i = n := by omega
    subst e
    refine .inl ⟨by show (i : Int).toNat ≤ i; omega, ?_⟩
    have hD2 : LstX S (upd F2 D (.lst acc)) (.ref D) xs := ⟨D, acc, rfl, upd_same, ha.imp fun _ _ r => Mono.mono o.ff r⟩
    refine done D xs _ _ hl (s12.trans o.ff) ?_ hD2
    obtain ⟨x, y, z, cl, cs, ob, hcl, hcs⟩ := B
    exact ⟨x, y, z, cl, cs, o.pubd ob hne.symm, o.ff.seq hcl, hcs⟩
end
theorem Bg.pub {K : PySem.W.Frag} {F H F1 H1 : Hp} {bg l : Addr} {acc : List V} (B : Bg K F H F1 H1 bg) (o : Own F H F1 H1 l acc) (hne : l ≠ bg) : Bg K F H (upd F1 l (.lst acc)) H1 bg := by
  obtain ⟨x, y, z, cl, cs, ob, hcl, hcs⟩ := B
  exact ⟨x, y, z, cl, cs, o.pubd ob hne.symm, o.ff.seq hcl, hcs⟩
/-! ### calls where it is known that no repr is under way -/
structure FnG (P : Program) (w : World) (K : PySem.W.Frag) (mg : Str → Option Value) (base : Heap) (CX : CXT) (k : Nat) (f : Addr) (fd : FuncData) (ps : List Str) (sp : Sp) : Prop where
  len : ∀ vs H Q E, sp vs H Q E → vs.length = ps.length
  run : ∀ (A : Around) (outer : List Env) (s : Shared) (H : Hp) (args : Args) (us : List Value) (vs : List V) (Q : VK) (E : XK), A.guards = some [] → Room k A → Env0 P w K mg base A outer s H → BindsTo s fd args (ps.zip us) → Vals vs us → sp vs H Q E →
    codeAny (model P w) A (.call (.ref f) args) (CR CX outer P w H s Q E) s
theorem FunD.okG {P : Program} {w : World} {K : PySem.W.Frag} {mg : Str → Option Value} {base : Heap} {x qual : Str} {params : Arguments} {body : List Stmt} {scope : Scope} {dvs : List V} {kws : List (Str × V)} {f : Addr} {fd : FuncData} {CX : CXT} {N ps : List Str} {k : Nat} {sp : Sp}
    (F : FunD K x qual params body scope dvs kws f fd) (S : FnScope N ps scope) (len : ∀ vs H Q E, sp vs H Q E → vs.length = ps.length)
    (hbody : ∀ (cdv : Value) (A : Around) (outer : List Env) (s : Shared) (H : Hp) (vs : List V) (Q : VK) (E : XK), A.guards = some [] → Room k (A.deeper (envOfC qual scope s.heap.objs.size f cdv)) → sp vs H Q E →
      ∃ t, PSs (cxOf CX P w K mg base N qual scope f cdv A outer s H E) body t ∧ t { nx := fun _ H' => Q .non H', rt := Q } (L2.start N vs) H) : FnG P w K mg base CX (k + 1) f fd ps sp := by
  obtain ⟨oc, od, dV, kV, doc, pm, an, cdv, ct, osl, rfl, lk, hcd, _, _⟩ := F.ex
  refine ⟨len, fun A outer s H args us vs Q E hg hr e0 hb r hsp => ?_⟩
  have hl := len _ _ _ _ hsp
  have KX : K.In s.heap := e0.mod.kin.keeps fun b o e => (e0.bs b o e).1
  have lim : s.heap.NoLimit := e0.mod.nolimit.keeps fun b o e => (e0.bs b o e).1
  refine codeAny_call_function hr.depth (KX _ _ lk) rfl S.co S.gen rfl (PySem.W.codeRec_of KX hcd) (hb _ _ _ _ ?_)
  refine wpAny_newFunctionEnv_cells S.kind (fun y hy => ?_) fun env he s1 x => ?_
  · rcases S.par y.1 (List.of_mem_zip (show (y.1, y.2) ∈ _ from hy)).1 with q | q
    · exact .inl q
    · exact .inr ⟨q, PySem.W.cellsFrom_some _ _ _ (.inl q)⟩
  · subst he
    refine ⟨lim.keeps x.toInCall.keep, codeAny_func ?_⟩
    obtain ⟨t, ht, hq⟩ := hbody cdv A outer s H vs Q E hg (hr.deeper _) hsp
    have I : Inv (cxOf CX P w K mg base N qual scope f cdv A outer s H E) [] (L2.start N vs) H s1 := inv_start S hr.hd e0 hl r x
    refine wpAny_mono (ht.run [] s1 (L2.start N vs) H _ I hq) (fun fl s' hs => ?_) fun e s' hs => hs
    cases fl with
    | ret u =>
      obtain ⟨v, σ', H', J, rv, q⟩ := hs
      exact ⟨v, H', J.os, J.bare, J.base, J.hok, rv, q⟩
    | next =>
      obtain ⟨σ', H', J, q⟩ := hs
      exact ⟨.non, H', J.os, J.bare, J.base, J.hok, rfl, q⟩
    | brk =>
      obtain ⟨_, _, _, q⟩ := hs
      exact False.elim q
    | cont =>
      obtain ⟨_, _, _, q⟩ := hs
      exact False.elim q
structure OkG (P : Program) (w : World) (K : PySem.W.Frag) (mg : Str → Option Value) (base : Heap) (k : Nat) (f : Addr) (sp : Sp) : Prop where
  ex : ∃ fd ps, Binds K fd ps [] ∧ FnG P w K mg base CX0 k f fd ps sp
  kp : PySem.W.keepIn K (.ref f) = true
theorem OkG.of {P : Program} {w : World} {K : PySem.W.Frag} {mg : Str → Option Value} {base : Heap} {k : Nat} {f : Addr} {sp : Sp} {x qual : Str} {params : Arguments} {body : List Stmt} {scope : Scope} {dvs : List V} {N ps : List Str} (h : ∃ fd, FunD K x qual params body scope dvs [] f fd) (b : ∀ {fd}, FunD K x qual params body scope dvs [] f fd → Binds K fd ps [])
    (S : FnScope N ps scope) (len : ∀ vs H Q E, sp vs H Q E → vs.length = ps.length)
    (hbody : ∀ (cdv : Value) (A : Around) (outer : List Env) (s : Shared) (H : Hp) (vs : List V) (Q : VK) (E : XK), A.guards = some [] → Room k (A.deeper (envOfC qual scope s.heap.objs.size f cdv)) → sp vs H Q E →
      ∃ t, PSs (cxOf CX0 P w K mg base N qual scope f cdv A outer s H E).nox body t ∧ ∀ σ, σ = start N vs → t { nx := fun _ H' => Q .non H', rt := Q } σ H) : OkG P w K mg base (k + 1) f sp := by
  obtain ⟨fd, F⟩ := h
  refine ⟨⟨fd, ps, b F, FunD.okG F S len fun cdv A outer s H vs Q E hg hr hsp => ?_⟩, F.kp⟩
  obtain ⟨t, p, q⟩ := hbody cdv A outer s H vs Q E hg hr hsp
  exact ⟨t, p.nox, q _ rfl⟩
section
variable {X : Cx} {k : Nat} {f : Addr} {sp : Sp} {x : Str} {p pos : Pos} {e : Expr} {es : List Expr} {t : TA}
theorem pe_clG (G : OkG X.prog X.w X.K X.mg X.base k f sp) (hgd : X.A.guards = some []) (hr : Room k X.A) (hg : Gl X x) (hm : X.mg x = some (.ref f)) (ha : PA X (e :: es) t) (hdb : (x == ("__debug__" : Str)) = false := by decide)
    (he : starEach (e :: es) X.env = (false, eval e X.env) :: starEach es X.env := by rfl) (hpl : (backTo pos (starEach es X.env)).any (·.1) = false := by rfl) : PE X (.Call (.Name x p) (e :: es) [] pos) (tCl sp t) := by
  obtain ⟨⟨fd, ps, b, F⟩, kp⟩ := G
  refine ⟨fun pins s σ H Q I h => ?_⟩
  refine wpAny_Call_Name_kw (ld_glob I hg hm ?_ hdb)
  refine PySem.W.callWith_K (h₀ := X.base) I.ok.mod.kin kp (thn (ha.run pos pins s σ H _ I h) fun us s1 ⟨vs, H1, I1, r, q⟩ => ⟨I1.kIn, ?_⟩) he hpl
  have hl : us.length = ps.length := by rw [← r.length]; exact F.len _ _ _ _ q
  have hb := b s1 us I1.kIn (by rw [List.append_nil]; exact hl)
  rw [List.append_nil] at hb
  refine wpAny_call (codeAny_mono (F.run X.A X.stack s1 H1 ⟨us, []⟩ us vs Q E0 hgd hr I1.env0 hb r q) fun r s' hq => ?_)
  cases r with
  | error e => exact (pass0 (X := X)) pins σ H1 s1 e s' I1 hq
  | ok fl =>
    cases fl with
    | ret u => exact I1.after hq
    | next => exact False.elim hq
    | brk => exact False.elim hq
    | cont => exact False.elim hq
end
/-! ### repr of a list of bools -/
theorem sb_showable : ∀ bs : List Bool, PyData.showableAll (bs.map .bool) = true
  | [] => by rw [List.map_nil, PyData.showableAll]
  | b :: bs => by rw [List.map_cons, PyData.showableAll, PyData.showable, sb_showable bs]; rfl
theorem sb_noDict : ∀ bs : List Bool, PyData.hasDictAll (bs.map .bool) = false
  | [] => by rw [List.map_nil, PyData.hasDictAll]
  | b :: bs => by rw [List.map_cons, PyData.hasDictAll, PyData.hasDict, sb_noDict bs]; rfl
end Wp


set_option Elab.async false
set_option linter.all false
set_option maxRecDepth 100000
set_option maxHeartbeats 4000000
namespace Wp
open PySem PySem.Spec PyProof.Rows L2
local macro_rules | `(tactic| walk_at "rd") => `(tactic| repeat (first
  | ((with_reducible apply rd_var); · exact rfl)
  | with_reducible refine rd_c ?_ | with_reducible refine rd_op ?_ | with_reducible refine rd_un ?_ | with_reducible refine rd_test ?_ | with_reducible refine rd_B ?_ | with_reducible refine rd_bl ?_
  | with_reducible refine rd_and ?_ | with_reducible refine rd_or ?_ | with_reducible refine rd_not ?_ | with_reducible refine rd_andV ?_ | with_reducible refine rd_orV ?_ | with_reducible refine rd_notV ?_ | with_reducible refine rd_ifE ?_
  | with_reducible refine rd_seq ?_ | with_reducible refine rd_asg ?_ | ((with_reducible apply rd_name); · (simp only [List.set_cons_zero, List.set_cons_succ]; exact rfl)) | with_reducible refine rd_ret ?_ | with_reducible refine rd_drop ?_ | with_reducible refine rd_if ?_ | with_reducible refine rd_next ?_ | with_reducible refine rd_break ?_ | with_reducible refine rd_cont ?_
  | with_reducible refine rd_cl ?_ | with_reducible refine rd_cb ?_ | with_reducible refine rd_mk ?_ | with_reducible refine rd_cons ?_ | with_reducible refine rd_nil ?_ | with_reducible refine rd_tup ?_ | with_reducible refine rd_lst ?_ | with_reducible refine rd_at ?_ | with_reducible refine rd_gAt ?_
  | with_reducible refine rd_isN ?_ | with_reducible refine rd_notN ?_ | with_reducible refine rd_abs ?_ | with_reducible refine rd_max ?_ | with_reducible refine rd_int ?_ | with_reducible refine rd_intB ?_ | with_reducible refine rd_consG ?_ | with_reducible refine rd_nilG ?_ | with_reducible refine rd_ipI ?_ | ((with_reducible apply rd_aug); · exact rfl)
  | with_reducible refine rd_par ?_ | with_reducible refine rd_par3 ?_ | ((with_reducible apply rd_parQ); · (simp only [List.set_cons_zero, List.set_cons_succ]; exact rfl)) | ((with_reducible apply rd_par3Q); · (simp only [List.set_cons_zero, List.set_cons_succ]; exact rfl))
  | with_reducible refine rd_yes ?_ | with_reducible refine rd_chain ?_ | with_reducible refine rd_bm ?_ | with_reducible refine rd_bm0 ?_ | with_reducible refine rd_me ?_ | with_reducible refine rd_augS ?_ | with_reducible refine rd_subG ?_ | with_reducible refine rd_forR ?_ | with_reducible refine rd_sl ?_ | with_reducible refine rd_part ?_ | with_reducible refine rd_partQ ?_ | with_reducible refine rd_noPart ?_ | with_reducible refine rd_lstRg ?_ | with_reducible refine rd_forL ?_ | with_reducible refine rd_forE ?_ | with_reducible refine rd_forZ ?_ | with_reducible refine rd_lcL ?_ | with_reducible refine rd_lcR ?_ | with_reducible refine rd_lcE ?_ | with_reducible refine rd_lcZ ?_ | with_reducible refine rd_while ?_
  | with_reducible refine iteT ?_ | with_reducible refine iteF ?_ | with_reducible refine ifNotT ?_ | with_reducible refine ifNotF ?_ | with_reducible refine rd_I0 ?_ | with_reducible refine rd_U ?_ | with_reducible refine rd_add ?_ | with_reducible refine rd_eqI ?_ | with_reducible refine rd_neI ?_ | with_reducible refine rd_eqB ?_))
local macro_rules | `(tactic| walk_at "st") => `(tactic| (intro σ hσ; simp only [L2.start, List.map_cons, List.map_nil, List.length_cons, List.length_nil, List.reduceReplicate, List.replicate_zero, List.append_nil, Nat.reduceAdd, Nat.reduceSub, List.cons_append, List.nil_append] at hσ; subst hσ; try dsimp only [cxOf, Cx.nox, Cx.wish]))
local macro_rules | `(tactic| walk_at "wp") => `(tactic| (simp only [List.map_cons, List.map_nil, wipe, List.set_cons_zero, List.set_cons_succ]))
theorem sb_shown : ∀ bs : List Bool, (PyData.shownAll (bs.map .bool)).length = bs.length ∧ ((PyData.shownAll (bs.map .bool)).map (·.length)).sum ≤ 5 * bs.length
  | [] => by
    rw [List.map_nil, PyData.shownAll]
    exact ⟨rfl, Nat.le_refl _⟩
  | b :: bs => by
    obtain ⟨h1, h2⟩ := sb_shown bs
    rw [List.map_cons, PyData.shownAll, PyData.shown]
    refine ⟨by rw [List.length_cons, h1, List.length_cons], ?_⟩
    rw [List.map_cons, List.sum_cons, List.length_cons]
    have hb : ((if b = true then Str.ofString "True" else Str.ofString "False" : Str)).length ≤ 5 := by cases b <;> decide
    generalize ((if b = true then Str.ofString "True" else Str.ofString "False" : Str)).length = z at hb ⊢
    omega
theorem txt_len : ∀ (ts : List Str) (k : Nat) (acc : Str), (textFrom k acc ts).length ≤ acc.length + (ts.map (·.length)).sum + 2 * ts.length
  | [], k, acc => by simp [textFrom]
  | t :: ts, k, acc => by
    have ih := txt_len ts (k + 1) (acc ++ (if k > 0 then ", " else "" : String) ++ t)
    have e : (acc ++ (if k > 0 then ", " else "" : String) ++ t).length = acc.length + (if k > 0 then 2 else 0) + t.length := by
      rw [strLen_append, strLen_append]
      split <;> rfl
    rw [e] at ih
    show (textFrom (k + 1) (acc ++ (if k > 0 then ", " else "" : String) ++ t) ts).length ≤ _
    rw [List.map_cons, List.sum_cons, List.length_cons]
    have hk : (if k > 0 then 2 else 0 : Nat) ≤ 2 := by split <;> decide
    omega
theorem sb_size {bs : List Bool} (h : bs.length ≤ 100) : (PyData.list (bs.map .bool)).shown.length ≤ sizeLine := by
  rw [PyData.shown]
  obtain ⟨h1, h2⟩ := sb_shown bs
  show (textFrom 0 "[" _ ++ "]" : Str).length ≤ sizeLine
  rw [strLen_append, sizeLine_eq]
  have h3 := txt_len (PyData.shownAll (bs.map .bool)) 0 "["
  have h4 : (Str.ofString "[").length = 1 := by decide
  have h5 : (Str.ofString "]").length = 1 := by decide
  have h4' : (("[" : Str)).length = 1 := h4
  have h5' : (("]" : Str)).length = 1 := h5
  omega
section
variable {X : Cx}
def rReprB (K : PySem.W.Frag) : List V → Hp → VK → Prop := fun xs H Q => ∃ (F : Hp) (v : V) (bs : List Bool), xs = [v] ∧ Same F H ∧ LstR K BoolR F v bs ∧ bs.length ≤ 100 ∧ Q (.str (PyData.list (bs.map .bool)).shown) H
theorem call_reprB {k : Nat} (hg : X.A.guards = some []) (hr : Room k X.A) : CallR X (.builtin "repr") (rReprB X.K) := by
  intro pins s σ H xs us Q I r h
  obtain ⟨F, v, bs, rfl, sF, hv, hl, q⟩ := h
  obtain ⟨u, rfl, ru⟩ := vals1 r
  have hv := sm_mo sF hv
  have dp : Dp X.K H v (.list (bs.map .bool)) := dat_bool.lst.dp hv
  obtain ⟨a, vs, rfl, hs, ha⟩ := hv
  obtain rfl : u = Value.ref a := ru
  obtain ⟨as, rd⟩ := Dp.reads I _ _ _ dp rfl
  have hu := hr.units
  have hc := cLine_is
  refine repr_of_reads' rd ?_ ?_ hg ?_ (fun _ _ e => e) (fun h' u tk hk => ?_) (sb_size hl)
  · rw [PyData.showable]
    exact sb_showable bs
  · rw [PyData.hasDict, sb_noDict]
    exact fun z => nomatch z
  · have hd : (PyData.list (bs.map .bool)).depth ≤ 1 := by
      rw [PyData.depth]
      exact Nat.succ_le_succ (depth_map (n := 0) (fun x => by rw [PyData.depth]; exact Nat.le_refl _) bs)
    omega
  · exact ⟨.str (PyData.list (bs.map .bool)).shown, H, I.kept (t' := tk) hk, ⟨u, rfl⟩, q⟩
end
section
variable {P : Program} {w : World} {K : PySem.W.Frag} {mg : Str → Option Value} {base : Heap}
def sp_law_alike (K : PySem.W.Frag) : Sp := fun vs H Q _ => ∃ (F : Hp) (u v : V) (bs : List Bool), vs = [u, v] ∧ Same F H ∧ LstR K BoolR F u bs ∧ LstR K BoolR F v bs ∧ bs.length ≤ 100 ∧ Q (.bl true) H
theorem okG_law_alike (T : Txt K mg) : OkG P w K mg base 1 (He.ga K "_law_alike") (sp_law_alike K) := by
  refine OkG.of T.fd_law_alike Txt.b_law_alike sc_law_alike (fun vs H Q E h => ?_) fun cdv A outer s H vs Q E hgd hr h => ?_
  · obtain ⟨_, _, _, _, rfl, _⟩ := h
    rfl
  obtain ⟨F, u, v, bs, rfl, s, hu, hv, hl, q⟩ := h
  refine ⟨_, (pss_one (ps_ret (pe_and (pe_cmpR (op_eq2 hr) (pv 0) (pv 1) (nomark _)) (pe_one (pe_cmpR (op_eq2 hr) (pe_callB (call_reprB hgd hr) (by rfl) T.f_repr (by decide +kernel) (pa_cons (pv 0) pa_nil)) (pe_callB (call_reprB hgd hr) (by rfl) T.f_repr (by decide +kernel) (pa_cons (pv 1) pa_nil)) (nomark _)))))), ?_⟩
  walk_at "st"
  walk_at "rd"
  refine rd_eqD dat_bool.lst (by decide) (sm_mo s hu) (sm_mo s hv) ?_
  refine ⟨_, rfl, ?_⟩
  refine ifT rfl ?_
  walk_at "rd"
  refine ⟨F, u, bs, rfl, s, hu, hl, ?_⟩
  walk_at "rd"
  refine ⟨F, v, bs, rfl, s, hv, hl, ?_⟩
  refine .inl ⟨rfl, ?_⟩
  rw [decide_eq_true rfl]
  exact q
end
end Wp


set_option Elab.async false
set_option linter.all false
set_option maxRecDepth 100000
set_option maxHeartbeats 4000000
namespace Wp
open PySem PySem.Spec PyProof.Rows L2
local macro_rules | `(tactic| walk_at "rd") => `(tactic| repeat (first
  | ((with_reducible apply rd_var); · exact rfl)
  | with_reducible refine rd_c ?_ | with_reducible refine rd_op ?_ | with_reducible refine rd_un ?_ | with_reducible refine rd_test ?_ | with_reducible refine rd_B ?_ | with_reducible refine rd_bl ?_
  | with_reducible refine rd_and ?_ | with_reducible refine rd_or ?_ | with_reducible refine rd_not ?_ | with_reducible refine rd_andV ?_ | with_reducible refine rd_orV ?_ | with_reducible refine rd_notV ?_ | with_reducible refine rd_ifE ?_
  | with_reducible refine rd_seq ?_ | with_reducible refine rd_asg ?_ | ((with_reducible apply rd_name); · (simp only [List.set_cons_zero, List.set_cons_succ]; exact rfl)) | with_reducible refine rd_ret ?_ | with_reducible refine rd_drop ?_ | with_reducible refine rd_if ?_ | with_reducible refine rd_next ?_ | with_reducible refine rd_break ?_ | with_reducible refine rd_cont ?_
  | with_reducible refine rd_cl ?_ | with_reducible refine rd_cb ?_ | with_reducible refine rd_mk ?_ | with_reducible refine rd_cons ?_ | with_reducible refine rd_nil ?_ | with_reducible refine rd_tup ?_ | with_reducible refine rd_lst ?_ | with_reducible refine rd_at ?_ | with_reducible refine rd_gAt ?_
  | with_reducible refine rd_isN ?_ | with_reducible refine rd_notN ?_ | with_reducible refine rd_abs ?_ | with_reducible refine rd_max ?_ | with_reducible refine rd_int ?_ | with_reducible refine rd_intB ?_ | with_reducible refine rd_consG ?_ | with_reducible refine rd_nilG ?_ | with_reducible refine rd_ipI ?_ | ((with_reducible apply rd_aug); · exact rfl)
  | with_reducible refine rd_par ?_ | with_reducible refine rd_par3 ?_ | ((with_reducible apply rd_parQ); · (simp only [List.set_cons_zero, List.set_cons_succ]; exact rfl)) | ((with_reducible apply rd_par3Q); · (simp only [List.set_cons_zero, List.set_cons_succ]; exact rfl))
  | with_reducible refine rd_yes ?_ | with_reducible refine rd_chain ?_ | with_reducible refine rd_bm ?_ | with_reducible refine rd_bm0 ?_ | with_reducible refine rd_me ?_ | with_reducible refine rd_augS ?_ | with_reducible refine rd_subG ?_ | with_reducible refine rd_forR ?_ | with_reducible refine rd_sl ?_ | with_reducible refine rd_part ?_ | with_reducible refine rd_partQ ?_ | with_reducible refine rd_noPart ?_ | with_reducible refine rd_lstRg ?_ | with_reducible refine rd_forL ?_ | with_reducible refine rd_forE ?_ | with_reducible refine rd_forZ ?_ | with_reducible refine rd_lcL ?_ | with_reducible refine rd_lcR ?_ | with_reducible refine rd_lcE ?_ | with_reducible refine rd_lcZ ?_ | with_reducible refine rd_while ?_
  | with_reducible refine iteT ?_ | with_reducible refine iteF ?_ | with_reducible refine ifNotT ?_ | with_reducible refine ifNotF ?_ | with_reducible refine rd_I0 ?_ | with_reducible refine rd_U ?_ | with_reducible refine rd_add ?_ | with_reducible refine rd_eqI ?_ | with_reducible refine rd_neI ?_ | with_reducible refine rd_eqB ?_))
local macro_rules | `(tactic| walk_at "st") => `(tactic| (intro σ hσ; simp only [L2.start, List.map_cons, List.map_nil, List.length_cons, List.length_nil, List.reduceReplicate, List.replicate_zero, List.append_nil, Nat.reduceAdd, Nat.reduceSub, List.cons_append, List.nil_append] at hσ; subst hσ; try dsimp only [cxOf, Cx.nox, Cx.wish]))
local macro_rules | `(tactic| walk_at "wp") => `(tactic| (simp only [List.map_cons, List.map_nil, wipe, List.set_cons_zero, List.set_cons_succ]))
section
variable {P : Program} {w : World} {K : PySem.W.Frag} {mg : Str → Option Value} {base : Heap}
theorem all2_area {F : Hp} {vs : List V} {cs : List Cfg} (h : All2 (AreaR F) vs cs) : ∀ c ∈ cs, CfgOk c := by
  induction h with
  | nil => intro c hc; cases hc
  | cons r _ ih =>
    intro c hc
    rcases List.mem_cons.mp hc with rfl | hc
    · obtain ⟨_, _, _, _, _, _, _, _, h⟩ := r
      exact h
    · exact ih c hc
def sp_law (K : PySem.W.Frag) : Sp := fun vs H Q _ => ∃ (a : Addr) (ns : List Int), vs = [.ref a] ∧ SqL K H a (ns.map .int) ∧ ns.length ≤ 63 ∧ ∀ H', Q (.bl true) H'
theorem okG_law (T : Txt K mg) : OkG P w K mg base 16 (He.ga K "law") (sp_law K) := by
  refine OkG.of T.fd_law Txt.b_law sc_law (fun vs H Q E h => ?_) fun cdv A outer s H vs Q E hgd hr h => ?_
  · obtain ⟨_, _, rfl, _⟩ := h
    rfl
  obtain ⟨a, ns, rfl, hns, hnl, q⟩ := h
  refine ⟨_, (pss_cons (ps_set (i := 1) sc_law.nd rfl (Or.inr rfl) (pe_cl (ok_law_bag T) (hr.mono (by decide)) (by rfl) T.g_law_bag (pa_cons (pv 0) pa_nil)))
      (pss_cons (ps_asg (pe_tup (pa_cons pe_int (pa_cons (pe_op op_add2 pe_int (pe_cl (ok_law_take T) (hr.mono (by decide)) (by rfl) T.g_law_take (pa_cons (pv 1) (pa_cons pe_int pa_nil)))) pa_nil))) (pg_tup rfl (pgs_cons (pg_name (i := 2) sc_law.nd rfl (Or.inr rfl)) (pgs_cons (pg_name (i := 3) sc_law.nd rfl (Or.inl rfl)) pgs_nil))))
      (pss_cons (ps_setLc (i := 5) rfl sc_law.nd rfl rfl (sw_true rfl rfl rfl (by decide +kernel)) (pi_range1 (by rfl) T.f_range (pa_cons (pv 3) pa_nil)) (blkOk_by (own := [("_law_k", 4)]) (N := ["_law_script", "_law_bag_here", "_law_hands", "_law_many_here", "_law_k", "_law_areas", "_law_hurdle", "_law_world", "_law_ways", "_law_land", "_law_bundles", "_law_votes", "_law_ballot", "_law_told", "_law_lots", "_law_due", "_law_least", "_law_most", "_law_must", "_law_order", "_law_found", "_law_area_here", "_law_lot"]) (sc := (defScope s_law)) (by decide +kernel)) (fun _ _ _ _ _ => (pg_name (i := 4) sc_law.nd rfl (Or.inl rfl))) (fun _ _ _ _ _ => pts_nil) (fun _ _ _ _ _ => (pe_cl (ok_law_area T) (hr.mono (by decide)) (by rfl) T.g_law_area (pa_cons (pv 1) (pa_cons (pv 2) pa_nil)))))
      (pss_cons (ps_set (i := 6) sc_law.nd rfl (Or.inl rfl) (pe_cl (ok_law_one T) (hr.mono (by decide)) (by rfl) T.g_law_one (pa_cons (pv 1) (pa_cons (pe_lst (pa_cons (pe_tup (pa_cons pe_int (pa_cons pe_int pa_nil))) (pa_cons (pe_tup (pa_cons pe_int (pa_cons pe_int pa_nil))) (pa_cons (pe_tup (pa_cons pe_int (pa_cons pe_int pa_nil))) (pa_cons (pe_tup (pa_cons pe_int (pa_cons pe_int pa_nil))) (pa_cons (pe_tup (pa_cons pe_int (pa_cons pe_int pa_nil))) (pa_cons (pe_tup (pa_cons pe_int (pa_cons pe_int pa_nil))) pa_nil))))))) pa_nil))))
      (pss_cons (ps_set (i := 7) sc_law.nd rfl (Or.inr rfl) (pe_tup (pa_cons (pv 5) (pa_cons (pe_cl (ok_law_take T) (hr.mono (by decide)) (by rfl) T.g_law_take (pa_cons (pv 1) (pa_cons pe_int pa_nil))) (pa_cons (pe_cl (ok_law_mixed T) (hr.mono (by decide)) (by rfl) T.g_law_mixed (pa_cons (pv 1) (pa_cons (pe_listRg rfl (by rfl) T.f_list (prg_1 (by rfl) T.f_range (pv 2))) pa_nil))) (pa_cons (pv 6) (pa_cons (pe_op op_add2 pe_int (pe_cl (ok_law_take T) (hr.mono (by decide)) (by rfl) T.g_law_take (pa_cons (pv 1) (pa_cons pe_int pa_nil)))) pa_nil)))))))
      (pss_cons (ps_setLc (i := 8) rfl sc_law.nd rfl rfl (sw_true rfl rfl rfl (by decide +kernel)) (pi_list (pv 5)) (blkOk_by (own := [("_law_area_here", 21)]) (N := ["_law_script", "_law_bag_here", "_law_hands", "_law_many_here", "_law_k", "_law_areas", "_law_hurdle", "_law_world", "_law_ways", "_law_land", "_law_bundles", "_law_votes", "_law_ballot", "_law_told", "_law_lots", "_law_due", "_law_least", "_law_most", "_law_must", "_law_order", "_law_found", "_law_area_here", "_law_lot"]) (sc := (defScope s_law)) (by decide +kernel)) (fun _ _ _ _ _ => (pg_name (i := 21) sc_law.nd rfl (Or.inl rfl))) (fun _ _ _ _ _ => pts_nil) (fun _ _ _ _ _ => (pe_mk T.k_Lists (ok_Lists_init T) (hr.mono (by decide)) (by rfl) T.g_Lists (pa_cons (pv 2) (pa_cons (pe_ix (ixK (K := K) rfl) (pv 21) pe_int (fun _ _ => rfl)) (pa_cons (pe_ix (ixK (K := K) rfl) (pv 21) pe_int (fun _ _ => rfl)) (pa_cons (pe_ix (ixK (K := K) rfl) (pv 21) pe_int (fun _ _ => rfl)) (pa_cons (pe_ix (ixK (K := K) rfl) (pv 21) pe_int (fun _ _ => rfl)) pa_nil))))))))
      (pss_cons (ps_asg (pe_tup (pa_cons (pe_mk T.k_Land (ok_Land_init T) (hr.mono (by decide)) (by rfl) T.g_Land (pa_cons (pv 8) (pa_cons (pe_ix ix_seq (pv 7) pe_int (fun _ _ => rfl)) (pa_cons (pe_ix ix_seq (pv 7) pe_int (fun _ _ => rfl)) (pa_cons (pe_ix ix_seq (pv 7) pe_int (fun _ _ => rfl)) (pa_cons (pe_ix ix_seq (pv 7) pe_int (fun _ _ => rfl)) pa_nil)))))) (pa_cons (pe_lst pa_nil) pa_nil))) (pg_tup rfl (pgs_cons (pg_name (i := 9) sc_law.nd rfl (Or.inr rfl)) (pgs_cons (pg_name (i := 10) sc_law.nd rfl (Or.inr rfl)) pgs_nil))))
      (pss_cons (ps_for PassesOwn.never rfl (pi_range1 (by rfl) T.f_range (pa_cons (pe_op op_add2 pe_int (pe_cl (ok_law_take T) (hr.mono (by decide)) (by rfl) T.g_law_take (pa_cons (pv 1) (pa_cons pe_int pa_nil)))) pa_nil)) (pg_name (i := 4) sc_law.nd rfl (Or.inl rfl)) (pss_cons (ps_set (i := 11) sc_law.nd rfl (Or.inl rfl) (pe_op op_mul2 (pe_lst (pa_cons pe_int pa_nil)) (pe_op op_add2 (pv 2) pe_int)))
      (pss_cons (ps_for PassesOwn.never rfl (pi_range1 (by rfl) T.f_range (pa_cons (pe_op op_add2 pe_int (pe_cl (ok_law_take T) (hr.mono (by decide)) (by rfl) T.g_law_take (pa_cons (pv 1) (pa_cons (pe_cl (ok_law_one T) (hr.mono (by decide)) (by rfl) T.g_law_one (pa_cons (pv 1) (pa_cons (pe_lst (pa_cons pe_int (pa_cons pe_int (pa_cons pe_int pa_nil)))) pa_nil))) pa_nil)))) pa_nil)) (pg_name (i := 12) sc_law.nd rfl (Or.inl rfl)) (pss_one (ps_augS (pv 11) (pe_cl (ok_law_take T) (hr.mono (by decide)) (by rfl) T.g_law_take (pa_cons (pv 1) (pa_cons (pe_cl (ok_law_one T) (hr.mono (by decide)) (by rfl) T.g_law_one (pa_cons (pv 1) (pa_cons (pe_lst (pa_cons pe_int (pa_cons pe_int (pa_cons pe_int pa_nil)))) pa_nil))) pa_nil))) get_list pe_int ip_add set_list)))
      (pss_one (ps_expr (pe_bm PySem.F.plainAttrs_list PySem.F.slot_list_append PySem.F.type_list_append mt_append (pv 10) (pa_cons (pe_tup (pa_cons (pe_cl (ok_law_take T) (hr.mono (by decide)) (by rfl) T.g_law_take (pa_cons (pv 1) (pa_cons (pv 3) pa_nil))) (pa_cons (pv 11) pa_nil))) pa_nil)))))))
      (pss_cons (ps_set (i := 13) sc_law.nd rfl (Or.inr rfl) (pe_lc rfl sc_law.nd (pi_list (pv 10)) (blkOk_by (own := [("_law_area_here", 21), ("_law_votes", 11)]) (N := ["_law_script", "_law_bag_here", "_law_hands", "_law_many_here", "_law_k", "_law_areas", "_law_hurdle", "_law_world", "_law_ways", "_law_land", "_law_bundles", "_law_votes", "_law_ballot", "_law_told", "_law_lots", "_law_due", "_law_least", "_law_most", "_law_must", "_law_order", "_law_found", "_law_area_here", "_law_lot"]) (sc := (defScope s_law)) (by decide +kernel)) (fun _ _ _ _ _ => (pg_tupK (K := K) (n := 2) rfl rfl (pgs_cons (pg_name (i := 21) sc_law.nd rfl (Or.inl rfl)) (pgs_cons (pg_name (i := 11) sc_law.nd rfl (Or.inl rfl)) pgs_nil)))) (fun _ _ _ _ _ => pts_nil) (fun _ _ _ _ _ => (pe_tup (pa_cons (pv 21) (pa_cons (pe_cl (ok_law_sheet T) (hr.mono (by decide)) (by rfl) T.g_law_sheet (pa_cons (pv 11) pa_nil)) pa_nil))))))
      (pss_cons (ps_set (i := 14) sc_law.nd rfl (Or.inl rfl) (pe_listRg rfl (by rfl) T.f_list (prg_1 (by rfl) T.f_range (pe_op op_shl pe_int (pe_callB call_lenN (by rfl) T.f_len PySem.boot_len (pa_cons (pv 10) pa_nil))))))
      (pss_cons (ps_setLc (i := 15) rfl sc_law.nd rfl rfl (sw_true rfl rfl rfl (by decide +kernel)) (pi_list (pv 14)) (blkOk_by (own := [("_law_lot", 22)]) (N := ["_law_script", "_law_bag_here", "_law_hands", "_law_many_here", "_law_k", "_law_areas", "_law_hurdle", "_law_world", "_law_ways", "_law_land", "_law_bundles", "_law_votes", "_law_ballot", "_law_told", "_law_lots", "_law_due", "_law_least", "_law_most", "_law_must", "_law_order", "_law_found", "_law_area_here", "_law_lot"]) (sc := (defScope s_law)) (by decide +kernel)) (fun _ _ _ _ _ => (pg_name (i := 22) sc_law.nd rfl (Or.inl rfl))) (fun _ _ _ _ _ => pts_nil) (fun _ _ _ _ _ => (pe_cl (ok_law_settles T) (hr.mono (by decide)) (by rfl) T.g_law_settles (pa_cons (pv 2) (pa_cons (pv 7) (pa_cons (pv 10) (pa_cons (pv 22) pa_nil)))))))
      (pss_cons (ps_if (pt_not (pt_val (pe_clG (okG_law_alike T) hgd (hr.mono (by decide)) (by rfl) T.g_law_alike (pa_cons (pe_lc rfl sc_law.nd (pi_list (pv 14)) (blkOk_by (own := [("_law_lot", 22)]) (N := ["_law_script", "_law_bag_here", "_law_hands", "_law_many_here", "_law_k", "_law_areas", "_law_hurdle", "_law_world", "_law_ways", "_law_land", "_law_bundles", "_law_votes", "_law_ballot", "_law_told", "_law_lots", "_law_due", "_law_least", "_law_most", "_law_must", "_law_order", "_law_found", "_law_area_here", "_law_lot"]) (sc := (defScope s_law)) (by decide +kernel)) (fun _ _ _ _ _ => (pg_name (i := 22) sc_law.nd rfl (Or.inl rfl))) (fun _ _ _ _ _ => pts_nil) (fun _ _ _ _ _ => (pe_cl (ok_settles T) (hr.mono (by decide)) (by rfl) T.g_settles (pa_cons (pv 9) (pa_cons (pv 13) (pa_cons (pv 22) pa_nil)))))) (pa_cons (pv 15) pa_nil))))) (pss_one (ps_ret pe_bl)) pss_nil)
      (pss_cons (ps_par3 (i := 16) (j := 17) (l := 18) (by rfl) sc_law.nd rfl rfl rfl (by decide) (by decide) (by decide) rfl rfl rfl (pa_cons (pe_cl (ok_least_lots T) (hr.mono (by decide)) (by rfl) T.g_least_lots (pa_cons (pv 9) (pa_cons (pv 13) pa_nil))) (pa_cons (pe_cl (ok_greatest_open T) (hr.mono (by decide)) (by rfl) T.g_greatest_open (pa_cons (pv 9) (pa_cons (pv 13) pa_nil))) (pa_cons (pe_cl (ok_must_look T) (hr.mono (by decide)) (by rfl) T.g_must_look (pa_cons (pv 9) (pa_cons (pv 13) pa_nil))) pa_nil))) (by rfl))
      (pss_cons (ps_if (PW.pt (pw_or (pt_not (pt_val (pe_cl (ok_law_lots_right T) (hr.mono (by decide)) (by rfl) T.g_law_lots_right (pa_cons (pv 15) (pa_cons (pv 16) (pa_cons (pv 17) (pa_cons (pv 18) pa_nil))))))) (pw_or1 (pt_cmpR op_notIn_seq (pe_cl (ok_fewest T) (hr.mono (by decide)) (by rfl) T.g_fewest (pa_cons (pv 9) (pa_cons (pv 13) pa_nil))) (pv 16) (by rfl))))) (pss_one (ps_ret pe_bl)) pss_nil)
      (pss_cons (ps_set (i := 19) sc_law.nd rfl (Or.inr rfl) (pe_cl (ok_law_mixed T) (hr.mono (by decide)) (by rfl) T.g_law_mixed (pa_cons (pv 1) (pa_cons (pe_listRg rfl (by rfl) T.f_list (prg_1 (by rfl) T.f_range (pe_callB call_lenN (by rfl) T.f_len PySem.boot_len (pa_cons (pv 10) pa_nil)))) pa_nil))))
      (pss_cons (ps_set (i := 20) sc_law.nd rfl (Or.inl rfl) (pe_cl (ok_least_lots T) (hr.mono (by decide)) (by rfl) T.g_least_lots (pa_cons (pv 9) (pa_cons (pe_lc rfl sc_law.nd (pi_list (pv 19)) (blkOk_by (own := [("_law_k", 4)]) (N := ["_law_script", "_law_bag_here", "_law_hands", "_law_many_here", "_law_k", "_law_areas", "_law_hurdle", "_law_world", "_law_ways", "_law_land", "_law_bundles", "_law_votes", "_law_ballot", "_law_told", "_law_lots", "_law_due", "_law_least", "_law_most", "_law_must", "_law_order", "_law_found", "_law_area_here", "_law_lot"]) (sc := (defScope s_law)) (by decide +kernel)) (fun _ _ _ _ _ => (pg_name (i := 4) sc_law.nd rfl (Or.inl rfl))) (fun _ _ _ _ _ => pts_nil) (fun _ _ _ _ _ => (pe_ix (ixK (K := K) rfl) (pv 13) (pv 4) (fun _ _ => rfl)))) pa_nil))))
      (pss_one (ps_ret (pe_cmpR (op_eq2 hr) (pv 20) (pe_callB cr_sorted (by rfl) T.f_sorted (by decide +kernel) (pa_cons (pe_lc rfl sc_law.nd (pi_list (pv 16)) (blkOk_by (own := [("_law_lot", 22)]) (N := ["_law_script", "_law_bag_here", "_law_hands", "_law_many_here", "_law_k", "_law_areas", "_law_hurdle", "_law_world", "_law_ways", "_law_land", "_law_bundles", "_law_votes", "_law_ballot", "_law_told", "_law_lots", "_law_due", "_law_least", "_law_most", "_law_must", "_law_order", "_law_found", "_law_area_here", "_law_lot"]) (sc := (defScope s_law)) (by decide +kernel)) (fun _ _ _ _ _ => (pg_name (i := 22) sc_law.nd rfl (Or.inl rfl))) (fun _ _ _ _ _ => pts_nil) (fun _ _ _ _ _ => (pe_cl (ok_law_moved T) (hr.mono (by decide)) (by rfl) T.g_law_moved (pa_cons (pv 22) (pa_cons (pv 19) pa_nil))))) pa_nil)) (nomark _)))))))))))))))))))), ?_⟩
  walk_at "st"
  walk_at "rd"
  refine ⟨H, a, ns, rfl, Same.refl H, hns, hnl, fun bg Fb Hb B => ?_⟩
  walk_at "rd"
  refine ⟨Fb, hide bg Hb, bg, 2, rfl, B.enter, by decide, by decide, fun d1 H1 a0 a1 B' => ?_⟩
  have B := B.call B'
  walk_at "rd"
  refine ⟨szl (by simp), fun pt hpt => ?_⟩
  have B := B.step ((Xt.refl B.x.sub).newH (o := .tup [.int 2, .int (1 + d1)]) hpt)
  refine rd_tupG (SqT.of upd_same) rfl ?_
  obtain ⟨m, hm, hm1, hm2⟩ : ∃ m : Nat, 1 + d1 = (m : Int) ∧ 1 ≤ m ∧ m ≤ 2 := ⟨(1 + d1).toNat, by omega, by omega, by omega⟩
  rw [hm] at B ⊢
  walk_at "rd"
  refine lc_rngB (S := AreaR) B (by omega) (fun i F2 H2 Z hi s12 B hZ => ?_) fun D5 cs F2 H2 hcl s12 B hcs => ?_
  · walk_at "wp"
    walk_at "rd"
    refine ⟨rfl, ?_⟩
    walk_at "rd"
    exact ⟨F2, hide bg H2, bg, rfl, B.enter, fun v c F' H' hv B' => hZ v c F' H' B' hv⟩
  clear B'
  walk_at "rd"
  have t0 := Xt.refl B.x.sub
  refine ⟨szl (by simp), fun p1 hp1 => ?_⟩
  have t1 := t0.new (o := .tup [.int 0, .int 1]) hp1
  walk_at "rd"
  refine ⟨szl (by simp), fun p2 hp2 => ?_⟩
  have t2 := t1.new (o := .tup [.int 0, .int 1]) hp2
  walk_at "rd"
  refine ⟨szl (by simp), fun p3 hp3 => ?_⟩
  have t3 := t2.new (o := .tup [.int 1, .int 4]) hp3
  walk_at "rd"
  refine ⟨szl (by simp), fun p4 hp4 => ?_⟩
  have t4 := t3.new (o := .tup [.int 2, .int 5]) hp4
  walk_at "rd"
  refine ⟨szl (by simp), fun p5 hp5 => ?_⟩
  have t5 := t4.new (o := .tup [.int 1, .int 2]) hp5
  walk_at "rd"
  refine ⟨szl (by simp), fun p6 hp6 => ?_⟩
  have t6 := t5.new (o := .tup [.int 2, .int 3]) hp6
  walk_at "rd"
  refine ⟨szl (by simp), fun pl hpl => ?_⟩
  have n2 := same_new (o := .tup [.int 0, .int 1]) (t1.sub.free hp2)
  have n3 := same_new (o := .tup [.int 1, .int 4]) (t2.sub.free hp3)
  have n4 := same_new (o := .tup [.int 2, .int 5]) (t3.sub.free hp4)
  have n5 := same_new (o := .tup [.int 1, .int 2]) (t4.sub.free hp5)
  have n6 := same_new (o := .tup [.int 2, .int 3]) (t5.sub.free hp6)
  have c1 := sm_mo (n2.trans (n3.trans (n4.trans (n5.trans n6)))) (hurX_new (F := F2) (p := p1) (a := 0) (b := 1) ⟨by decide, by decide, by decide, by decide, by decide⟩)
  have c2 := sm_mo (n3.trans (n4.trans (n5.trans n6))) (hurX_new (F := (upd F2 p1 (.tup [.int 0, .int 1]))) (p := p2) (a := 0) (b := 1) ⟨by decide, by decide, by decide, by decide, by decide⟩)
  have c3 := sm_mo (n4.trans (n5.trans n6)) (hurX_new (F := (upd (upd F2 p1 (.tup [.int 0, .int 1])) p2 (.tup [.int 0, .int 1]))) (p := p3) (a := 1) (b := 4) ⟨by decide, by decide, by decide, by decide, by decide⟩)
  have c4 := sm_mo (n5.trans n6) (hurX_new (F := (upd (upd (upd F2 p1 (.tup [.int 0, .int 1])) p2 (.tup [.int 0, .int 1])) p3 (.tup [.int 1, .int 4]))) (p := p4) (a := 2) (b := 5) ⟨by decide, by decide, by decide, by decide, by decide⟩)
  have c5 := sm_mo n6 (hurX_new (F := (upd (upd (upd (upd F2 p1 (.tup [.int 0, .int 1])) p2 (.tup [.int 0, .int 1])) p3 (.tup [.int 1, .int 4])) p4 (.tup [.int 2, .int 5]))) (p := p5) (a := 1) (b := 2) ⟨by decide, by decide, by decide, by decide, by decide⟩)
  have c6 := (hurX_new (F := (upd (upd (upd (upd (upd F2 p1 (.tup [.int 0, .int 1])) p2 (.tup [.int 0, .int 1])) p3 (.tup [.int 1, .int 4])) p4 (.tup [.int 2, .int 5])) p5 (.tup [.int 1, .int 2]))) (p := p6) (a := 2) (b := 3) ⟨by decide, by decide, by decide, by decide, by decide⟩)
  generalize (upd (upd (upd (upd (upd (upd F2 p1 (.tup [.int 0, .int 1])) p2 (.tup [.int 0, .int 1])) p3 (.tup [.int 1, .int 4])) p4 (.tup [.int 2, .int 5])) p5 (.tup [.int 1, .int 2])) p6 (.tup [.int 2, .int 3])) = F1 at t6 c1 c2 c3 c4 c5 c6
  generalize (upd (upd (upd (upd (upd (upd H2 p1 (.tup [.int 0, .int 1])) p2 (.tup [.int 0, .int 1])) p3 (.tup [.int 1, .int 4])) p4 (.tup [.int 2, .int 5])) p5 (.tup [.int 1, .int 2])) p6 (.tup [.int 2, .int 3])) = H1 at t6 hpl ⊢
  clear n2 n3 n4 n5 n6 t1 t2 t3 t4 t5
  have B1 := B.step (t6.newH (o := .lst [.ref p1, .ref p2, .ref p3, .ref p4, .ref p5, .ref p6]) hpl)
  have hne : pl ≠ bg := (B.step t6).ne hpl
  have hcs := t6.mono hcs
  clear s12 t6
  walk_at "rd"
  refine ⟨F1, hide bg _, bg, pl, _, rfl, B1.enter, SqL.of upd_same, hne, by simp, by simp, fun d v H3 hv B' => ?_⟩
  have B := B1.call B'
  obtain ⟨hh, hv⟩ : ∃ h, HurX F1 v h := by
    match d, hv with
    | 0, hv => cases hv; exact ⟨_, c1⟩
    | 1, hv => cases hv; exact ⟨_, c2⟩
    | 2, hv => cases hv; exact ⟨_, c3⟩
    | 3, hv => cases hv; exact ⟨_, c4⟩
    | 4, hv => cases hv; exact ⟨_, c5⟩
    | 5, hv => cases hv; exact ⟨_, c6⟩
  clear c1 c2 c3 c4 c5 c6 B1 B'
  walk_at "rd"
  refine ⟨F1, hide bg H3, bg, 3, rfl, B.enter, by decide, by decide, fun de H4 e0 e1 B' => ?_⟩
  have B := B.call B'
  walk_at "rd"
  refine ⟨.of_le (by decide) (by decide) (by decide) (by decide), fun pr hpr => ?_⟩
  have sR := same_new (o := .lst (rgV 0 2)) (B.x.sub.free hpr)
  have B := B.step ((Xt.refl B.x.sub).new (o := .lst (rgV 0 2)) hpr)
  walk_at "rd"
  refine ⟨_, hide bg _, bg, pr, [0, 1], rfl, B.enter, SqL.of upd_same, by decide, fun plo ms F5 H5 hperm B' hplo => ?_⟩
  obtain ⟨f, rfl⟩ := lots_of_perm hperm
  have B := B.call B'
  have s5 := sR.trans B'.x.ff
  have hcs := sm_mo s5 hcs
  have hv := sm_mo s5 hv
  clear sR s5 B'
  walk_at "rd"
  refine ⟨F5, hide bg H5, bg, 2, rfl, B.enter, by decide, by decide, fun ds H6 f0 f1 B' => ?_⟩
  have B := B.call B'
  walk_at "rd"
  refine ⟨szl (by simp), fun pw hpw => ?_⟩
  obtain ⟨hu, rfl, hhu, hok⟩ := hv
  have sW := same_new (o := .tup [.ref D5, .int de, .ref plo, .ref hu, .int (1 + ds)]) (B.x.sub.free hpw)
  have B := B.step ((Xt.refl B.x.sub).new (o := .tup [.ref D5, .int de, .ref plo, .ref hu, .int (1 + ds)]) hpw)
  have hcs := sm_mo sW hcs
  obtain ⟨ev, rfl⟩ := Int.eq_ofNat_of_zero_le e0
  have cok : LOk ⟨cs, ev, f, hh.1, hh.2, 1 + ds⟩ := by
    obtain ⟨_, _, _, _, ha⟩ := id hcs
    exact ⟨by show 1 ≤ cs.length; omega, by show cs.length ≤ 2; omega, all2_area ha, by show ev ≤ 2; omega, hok, by show 1 + ds = 1 ∨ 1 + ds = 2; omega⟩
  have hwt : (upd F5 pw (.tup [.ref D5, .int (ev : Int), .ref plo, .ref hu, .int (1 + ds)])) pw = some (.tup [.ref D5, .int (ev : Int), .ref plo, .ref hu, .int (1 + ds)]) := upd_same
  have hplo := sW _ _ hplo
  have hhu := sW _ _ hhu
  generalize upd F5 pw (.tup [.ref D5, .int (ev : Int), .ref plo, .ref hu, .int (1 + ds)]) = F6 at B hcs hwt hplo hhu
  generalize upd H6 pw (.tup [.ref D5, .int (ev : Int), .ref plo, .ref hu, .int (1 + ds)]) = H6 at B ⊢
  have hw : WorldR K F6 (.ref pw) ⟨cs, ev, f, hh.1, hh.2, 1 + ds⟩ := ⟨pw, .ref D5, plo, hu, rfl, hwt, hcs.lst, hplo, hhu, cok⟩
  clear sW B' hperm
  walk_at "rd"
  refine lc_list (R := AreaR) (K := K) (IsLists K) (fun _ => true) (fun c : Cfg => c) hcs.lst B.x.sub (by omega) (fun i c F7 H7 v hy x hv Z Z0 hZ _ => ?_) fun D8 F7 H7 x7 hD8 => ?_
  · obtain ⟨aa, pa, hua, nm, rfl, hat, hpa, hhua, aok⟩ := hv
    have hat' := x.sub _ _ hat
    walk_at "wp"
    walk_at "rd"
    refine ⟨rfl, ?_⟩
    walk_at "rd"
    refine rd_ixT (SqT.of hat') rfl ?_
    walk_at "rd"
    refine rd_ixT (SqT.of hat') rfl ?_
    walk_at "rd"
    refine rd_ixT (SqT.of hat') rfl ?_
    walk_at "rd"
    refine rd_ixT (SqT.of hat') rfl ?_
    walk_at "rd"
    intro xi dxi hxi hdxi hnei
    exact ⟨F7, H7, xi, dxi, pa, hua, c, rfl, rfl, hxi, hdxi, hnei, x.sub, SqL.of hpa, hhua, aok, fun F' H' x' hl => ⟨rfl, hZ rfl _ _ _ x' hl⟩⟩
  rw [filtT, List.map_id'] at hD8
  have B := B.step x7
  have hw := x7.mono hw
  have hwt := x7.ff _ _ hwt
  have hplo := x7.ff _ _ hplo
  have hhu := x7.ff _ _ hhu
  clear x7 hcs
  have hwtH := B.x.sub _ _ hwt
  walk_at "rd"
  refine rd_ixT (SqT.of hwtH) rfl ?_
  walk_at "rd"
  refine rd_ixT (SqT.of hwtH) rfl ?_
  walk_at "rd"
  refine rd_ixT (SqT.of hwtH) rfl ?_
  walk_at "rd"
  refine rd_ixT (SqT.of hwtH) rfl ?_
  walk_at "rd"
  intro xl dxl hxl hdxl hnel
  refine ⟨F7, H7, xl, dxl, plo, hu, .ref D8, ⟨cs, ev, f, hh.1, hh.2, 1 + ds⟩, rfl, rfl, hxl, hdxl, hnel, B.x.sub, hD8, SqL.of hplo, hhu, cok, fun F8 H8 x8 hla => ⟨rfl, ?_⟩⟩
  have B := B.step x8
  have hw := x8.mono hw
  generalize hc0 : (⟨cs, ev, f, hh.1, hh.2, 1 + ds⟩ : LCfg) = c at hw cok hla
  clear x8 hwt hwtH hplo hhu hD8 hc0
  walk_at "rd"
  refine ⟨szl (by simp), fun p10 hp10 => ?_⟩
  have h10 : p10 ≠ bg := B.ne hp10
  have o10 : Own H H F8 (upd H8 p10 (.lst [])) p10 [] := Own.mk' B.x hp10
  have B := B.step ((Xt.refl B.x.sub).newH (o := .lst []) hp10)
  walk_at "rd"
  refine ⟨szl (by simp), fun pt2 hpt2 => ?_⟩
  have o10 := o10.step ((Xt.refl o10.x.sub).newH (o := .tup [.ref xl, .ref p10]) hpt2)
  have B := B.step ((Xt.refl B.x.sub).newH (o := .tup [.ref xl, .ref p10]) hpt2)
  refine rd_tupG (SqT.of upd_same) rfl ?_
  walk_at "rd"
  refine ⟨F8, hide bg _, bg, 3, rfl, B.enter, by decide, by decide, fun dn H9 g0 g1 B' => ?_⟩
  have o10 := o10.bag h10 B B'
  have B := B.call B'
  clear B'
  obtain ⟨n, hn, hn2, hn4⟩ : ∃ n : Nat, 2 + dn = (n : Int) ∧ 2 ≤ n ∧ n ≤ 4 := ⟨(2 + dn).toNat, by omega, by omega, by omega⟩
  walk_at "rd"
  rw [hn]
  refine fo_rng (fun i σ H1 => ∃ (F1 : Hp) (acc : List V) (bs : List Bun) (y4 y11 y12 : Option V), σ = [some (.ref a), some (.ref bg), some (.int 2), some (.int (m : Int)), y4, some (.ref D5), some (.ref hu), some (.ref pw), some (.ref D8), some (.ref xl), some (.ref p10), y11, y12, none, none, none, none, none, none, none, none, none, none] ∧
      Same F8 F1 ∧ Bg K H H F1 H1 bg ∧ Own H H F1 H1 p10 acc ∧ All2 (BvR K F1) acc bs ∧ bs.length = i ∧ ∀ b ∈ bs, VtS b.2 ∧ b.2.sum ≤ 2) (by omega)
    ⟨F8, [], [], _, _, _, rfl, Same.refl _, B, o10, .nil, rfl, fun b hb => (nomatch hb)⟩ ?_ ?_
  · rintro i σ H1 hi ⟨F1, acc, bs, y4, y11, y12, rfl, s81, B, o10, hacc, hbl, hbs⟩
    have hal := hacc.length
    walk_at "rd"
    refine ⟨szl (by simp), fun pz hpz => ?_⟩
    have xz := (Xt.refl B.x.sub).newH (o := .lst [.int 0]) hpz
    have B := B.step xz
    have o10 := o10.step xz
    clear xz
    walk_at "rd"
    refine rd_rep upd_same (by decide) (by decide) (by decide) fun p11 hp11 => ?_
    have h11 : p11 ≠ bg := B.ne hp11
    have B := B.step ((Xt.refl B.x.sub).newH (o := .lst [.int 0, .int 0, .int 0]) hp11)
    obtain ⟨o10, o11, h1011⟩ := o10.new2 (a2 := [.int 0, .int 0, .int 0]) hp11
    walk_at "rd"
    refine ⟨szl (by simp), fun pl hpl => ?_⟩
    have hpl1 : pl ≠ bg := B.ne hpl
    have xz := (Xt.refl B.x.sub).newH (o := .lst [.int 1, .int 1, .int 2]) hpl
    have B := B.step xz
    have o10 := o10.step xz
    have o11 := o11.step xz
    clear xz
    walk_at "rd"
    refine ⟨F1, hide bg _, bg, pl, _, rfl, B.enter, SqL.of upd_same, hpl1, by simp, by simp, fun d v H2 hv B' => ?_⟩
    have o10 := o10.bag h10 B B'
    have o11 := o11.bag h11 B B'
    have B := B.call B'
    clear B'
    obtain ⟨vv, rfl, hv1, hv2⟩ : ∃ vv : Int, v = .int vv ∧ 1 ≤ vv ∧ vv ≤ 2 := by
      match d, hv with
      | 0, hv => cases hv; exact ⟨1, rfl, by decide, by decide⟩
      | 1, hv => cases hv; exact ⟨1, rfl, by decide, by decide⟩
      | 2, hv => cases hv; exact ⟨2, rfl, by decide, by decide⟩
    walk_at "rd"
    refine ⟨F1, hide bg H2, bg, vv, rfl, B.enter, hv1, by omega, fun d2 H3 k0 k1 B' => ?_⟩
    have o10 := o10.bag h10 B B'
    have o11 := o11.bag h11 B B'
    have B := B.call B'
    clear B'
    obtain ⟨nb, hnb, hnb2⟩ : ∃ nb : Nat, 1 + d2 = (nb : Int) ∧ nb ≤ 2 := ⟨(1 + d2).toNat, by omega, by omega⟩
    walk_at "rd"
    rw [hnb]
    refine fo_rng (fun j σ H4 => ∃ (x0 x1 x2 : Int) (y12 : Option V), σ = [some (.ref a), some (.ref bg), some (.int 2), some (.int (m : Int)), some (.int (i : Int)), some (.ref D5), some (.ref hu), some (.ref pw), some (.ref D8), some (.ref xl), some (.ref p10), some (.ref p11), y12, none, none, none, none, none, none, none, none, none, none] ∧
        Bg K H H F1 H4 bg ∧ Own H H F1 H4 p10 acc ∧ Own H H F1 H4 p11 [.int x0, .int x1, .int x2] ∧ 0 ≤ x0 ∧ 0 ≤ x1 ∧ 0 ≤ x2 ∧ x0 + x1 + x2 = j) (by omega)
      ⟨0, 0, 0, _, rfl, B, o10, o11, by decide, by decide, by decide, by decide⟩ ?_ ?_
    · rintro j σ H4 hj ⟨x0, x1, x2, y12, rfl, B, o10, o11, z0, z1, z2, zs⟩
      walk_at "rd"
      refine ⟨szl (by simp), fun pl hpl => ?_⟩
      have hpl1 : pl ≠ bg := B.ne hpl
      have xz := (Xt.refl B.x.sub).newH (o := .lst [.int 1, .int 2, .int 3]) hpl
      have B := B.step xz
      have o10 := o10.step xz
      have o11 := o11.step xz
      clear xz
      walk_at "rd"
      refine ⟨F1, hide bg _, bg, pl, _, rfl, B.enter, SqL.of upd_same, hpl1, by simp, by simp, fun d v H5 hv B' => ?_⟩
      have o10 := o10.bag h10 B B'
      have o11 := o11.bag h11 B B'
      have B := B.call B'
      clear B'
      obtain ⟨vv, rfl, hv1, hv2⟩ : ∃ vv : Int, v = .int vv ∧ 1 ≤ vv ∧ vv ≤ 3 := by
        match d, hv with
        | 0, hv => cases hv; exact ⟨1, rfl, by decide, by decide⟩
        | 1, hv => cases hv; exact ⟨2, rfl, by decide, by decide⟩
        | 2, hv => cases hv; exact ⟨3, rfl, by decide, by decide⟩
      walk_at "rd"
      refine ⟨F1, hide bg H5, bg, vv, rfl, B.enter, hv1, by omega, fun d3 H6 k0 k1 B' => ?_⟩
      have o10 := o10.bag h10 B B'
      have o11 := o11.bag h11 B B'
      have B := B.call B'
      clear B'
      have h3 : d3 = 0 ∨ d3 = 1 ∨ d3 = 2 := by omega
      rcases h3 with rfl | rfl | rfl
      · refine rd_ixLg (SqL.of o11.e) rfl ?_
        walk_at "rd"
        refine rd_setL o11.e rfl ?_
        exact ⟨x0 + 1, x1, x2, _, rfl, B.put o11 h11, o10.other o11 h1011, o11.set, by omega, z1, z2, by omega⟩
      · refine rd_ixLg (SqL.of o11.e) rfl ?_
        walk_at "rd"
        refine rd_setL o11.e rfl ?_
        exact ⟨x0, x1 + 1, x2, _, rfl, B.put o11 h11, o10.other o11 h1011, o11.set, z0, by omega, z2, by omega⟩
      · refine rd_ixLg (SqL.of o11.e) rfl ?_
        walk_at "rd"
        refine rd_setL o11.e rfl ?_
        exact ⟨x0, x1, x2 + 1, _, rfl, B.put o11 h11, o10.other o11 h1011, o11.set, z0, z1, by omega, by omega⟩
    · rintro σ H4 ⟨x0, x1, x2, y12, rfl, B, o10, o11, z0, z1, z2, zs⟩
      walk_at "rd"
      refine ⟨ty_list (SqL.of o10.e), ?_⟩
      walk_at "rd"
      refine ⟨F1, hide bg H4, bg, m, rfl, B.enter, by omega, by omega, fun d4 H5 k0 k1 B' => ?_⟩
      have o10 := o10.bag h10 B B'
      have o11 := o11.bag h11 B B'
      have B := B.call B'
      clear B'
      obtain ⟨ar, rfl⟩ := Int.eq_ofNat_of_zero_le k0
      have hvt : VtR K (upd F1 p11 (.lst [.int x0, .int x1, .int x2])) (.ref p11) ⟨x0, x1, x2⟩ := ilst_of (SqL.of upd_same)
      have s11 := o11.ff
      have B := B.pub o11 h11
      have o10 := o11.pubd o10 h1011
      generalize upd F1 p11 (.lst [.int x0, .int x1, .int x2]) = F2 at B o10 hvt s11
      walk_at "rd"
      refine ⟨szl (by simp), fun pb hpb => ?_⟩
      have xz := (Xt.refl B.x.sub).new (o := .tup [.int (ar : Int), .ref p11]) hpb
      have sB := same_new (o := .tup [.int (ar : Int), .ref p11]) (B.x.sub.free hpb)
      have B := B.step xz
      have o10 := o10.step xz
      walk_at "rd"
      refine rd_append o10.e (by omega) ?_
      refine ⟨_, acc ++ [.ref pb], bs ++ [(ar, ⟨x0, x1, x2⟩)], _, _, _, rfl, s81.trans (s11.trans sB), B.put o10 h10, o10.set, ?_, by rw [List.length_append, hbl]; rfl, fun b hb => ?_⟩
      · exact (hacc.imp fun _ _ r => sm_mo (s11.trans sB) r).snoc ⟨pb, .int (ar : Int), .ref p11, rfl, SqT.of upd_same, rfl, sm_mo sB hvt⟩
      · rcases List.mem_append.mp hb with hb | hb
        · exact hbs b hb
        · rw [List.mem_singleton.mp hb]
          exact ⟨⟨z0, z1, z2, by unfold Vt.sum; simp only; omega⟩, by unfold Vt.sum; simp only; omega⟩
  · rintro σ H1 ⟨F1, acc, bs, y4, y11, y12, rfl, s81, B, o10, hacc, hbl, hbs⟩
    have few : BFew bs := ⟨by omega, fun b hb => (hbs b hb).1, fun b hb => (hbs b hb).2⟩
    have hal := hacc.length
    have hbu : LstR K (BvR K) (upd F1 p10 (.lst acc)) (.ref p10) bs := ⟨p10, acc, rfl, SqL.of upd_same, hacc.imp fun _ _ r => sm_mo o10.ff r⟩
    have hbe : (upd F1 p10 (.lst acc)) p10 = some (.lst acc) := upd_same
    have hw := sm_mo (s81.trans o10.ff) hw
    have hla := sm_mo (s81.trans o10.ff) hla
    have B := B.pub o10 h10
    generalize upd F1 p10 (.lst acc) = F2 at B hbu hbe hw hla
    clear o10 hacc s81
    walk_at "rd"
    refine lc_list (R := BvR K) (BunR K) (fun _ => true) (fun b : Bun => b) hbu B.x.sub (by omega) (fun i b F3 H3 v hy x hv Z Z0 hZ _ => ?_) fun D13 F3 H3 x3 hD13 => ?_
    · have hbm := List.mem_of_getElem? hy
      obtain ⟨ab, v1, v2, rfl, ht, h1, h2⟩ := hv
      obtain rfl : v1 = .int (b.1 : Int) := h1
      walk_at "wp"
      refine rd_tupG (sm_t x.sub ht) rfl ?_
      walk_at "rd"
      refine ⟨rfl, ?_⟩
      walk_at "rd"
      refine ⟨F3, v2, b.2, rfl, x.sub, h2, few.s b hbm, fun u F4 H4 x4 hu => ?_⟩
      walk_at "rd"
      refine ⟨szl (by simp), fun pt hpt => ?_⟩
      exact hZ rfl _ _ _ (x4.new hpt) ⟨pt, .int (b.1 : Int), u, rfl, SqT.of upd_same, rfl, sm_mo (same_new (x4.sub.free hpt)) hu⟩
    rw [filtT, List.map_id'] at hD13
    have B := B.step x3
    have hw := x3.mono hw
    have hla := x3.mono hla
    have hbu := x3.mono hbu
    have hbe := x3.ff _ _ hbe
    clear x3
    subst hbl
    have hp16 : 2 ^ bs.length ≤ 16 := Nat.le_trans (Nat.pow_le_pow_right (by decide) hn4) (by decide)
    have hp0 : 0 < 2 ^ bs.length := pow_pos' _
    have h6 : bs.length ≤ 6 := by omega
    walk_at "rd"
    refine rd_lenL (SqL.of (B.x.sub _ _ hbe)) ?_
    rw [hal]
    refine rd_I ⟨by omega, by omega, by decide⟩ ?_
    rw [pow_nat]
    walk_at "rd"
    refine ⟨.of_le (by decide) (by omega) (by decide) (by omega), fun p14 hp14 => ?_⟩
    rw [rgV_nat]
    have x14 := (Xt.refl B.x.sub).new (o := .lst ((List.range (2 ^ bs.length)).map fun i : Nat => V.int (i : Int))) hp14
    have hlots : Nls K (upd F3 p14 (.lst ((List.range (2 ^ bs.length)).map fun i : Nat => V.int (i : Int)))) (.ref p14) (List.range (2 ^ bs.length)) := ⟨p14, _, rfl, SqL.of upd_same, All2.of_map fun _ _ => rfl⟩
    have B := B.step x14
    have hw := x14.mono hw
    have hla := x14.mono hla
    have hbu := x14.mono hbu
    have hbe := x14.ff _ _ hbe
    have hD13 := x14.mono hD13
    generalize upd F3 p14 (.lst ((List.range (2 ^ bs.length)).map fun i : Nat => V.int (i : Int))) = F4 at x14 hlots B hw hla hbu hbe hD13
    generalize upd H3 p14 (.lst ((List.range (2 ^ bs.length)).map fun i : Nat => V.int (i : Int))) = H4 at x14 B ⊢
    clear x14
    walk_at "rd"
    refine lc_list (R := NatR) BoolR (fun _ => true) (fun l : Nat => settlesL c bs l) hlots B.x.sub (by rw [List.length_range]; omega) (fun i l F5 H5 v hy x hv Z Z0 hZ _ => ?_) fun D15 F5 H5 x5 hD15 => ?_
    · obtain rfl : v = .int (l : Int) := hv
      walk_at "wp"
      walk_at "rd"
      refine ⟨rfl, ?_⟩
      walk_at "rd"
      exact ⟨F5, .ref pw, .ref p10, c, bs, l, rfl, x.sub, x.mono hw, x.mono hbu, few, fun H6 s6 => hZ rfl _ _ _ (Xt.of x.sub s6) rfl⟩
    rw [filt_map] at hD15
    have B := B.step x5
    have hla := x5.mono hla
    have hlots := x5.mono hlots
    have hbe := x5.ff _ _ hbe
    have hD13 := x5.mono hD13
    clear x5 hw hbu
    walk_at "rd"
    refine lc_list (R := NatR) BoolR (fun _ => true) (fun l : Nat => settlesB c bs l) hlots B.x.sub (by rw [List.length_range]; omega) (fun i l F6 H6 v hy x hv Z Z0 hZ _ => ?_) fun D16 F6 H6 x6 hD16 => ?_
    · obtain rfl : v = .int (l : Int) := hv
      walk_at "wp"
      walk_at "rd"
      refine ⟨rfl, ?_⟩
      walk_at "rd"
      exact ⟨F6, .ref xl, .ref D13, c, bs, l, rfl, x.sub, x.mono hla, x.mono hD13, few.ok, fun H7 s7 => hZ rfl _ _ _ (Xt.of x.sub s7) rfl⟩
    rw [filt_map] at hD16
    have B := B.step x6
    have hla := x6.mono hla
    have hbe := x6.ff _ _ hbe
    have hD13 := x6.mono hD13
    have hD15 := x6.mono hD15
    rw [show (List.range (2 ^ bs.length)).map (fun l => settlesL c bs l) = (List.range (2 ^ bs.length)).map (settlesB c bs) from List.map_congr_left fun l _ => (settles_eq cok few l).symm] at hD15
    clear x6 hlots
    walk_at "rd"
    refine ⟨F6, .ref D16, .ref D15, _, rfl, B.x.sub, hD16, hD15, by rw [List.length_map, List.length_range]; omega, ?_⟩
    walk_at "rd"
    refine ⟨F6, .ref xl, .ref D13, c, bs, rfl, B.x.sub, hla, hD13, few.ok, h6, fun ul F7 H7 x7 hul => ?_⟩
    have B := B.step x7
    have hla := x7.mono hla
    have hbe := x7.ff _ _ hbe
    have hD13 := x7.mono hD13
    have hD15 := x7.mono hD15
    clear x7 hD16
    walk_at "rd"
    refine ⟨F7, .ref xl, .ref D13, c, bs, rfl, B.x.sub, hla, hD13, few.ok, h6, fun ug F8 H8 x8 hug => ?_⟩
    have B := B.step x8
    have hla := x8.mono hla
    have hbe := x8.ff _ _ hbe
    have hD13 := x8.mono hD13
    have hD15 := x8.mono hD15
    have hul := x8.mono hul
    clear x8
    walk_at "rd"
    refine ⟨F8, .ref xl, .ref D13, c, bs, rfl, B.x.sub, hla, hD13, few.ok, h6, fun H9 s9 => ?_⟩
    have B := B.step (Xt.of B.x.sub s9)
    clear s9
    walk_at "rd"
    refine ⟨F8, .ref D15, ul, ug, bs.length, _, settlesB c bs, _, _, rfl, B.x.sub, hn4, hD15, hul, hug, min_eq _ rfl, max_eq _ rfl, out_apart cok few, look_bit cok few hn4, fun H10 s10 => ?_⟩
    have B := B.step (Xt.of B.x.sub s10)
    clear s10
    walk_at "rd"
    refine ⟨F8, .ref xl, .ref D13, c, bs, rfl, B.x.sub, hla, hD13, few.ok, h6, least_ne cok few, fun l H11 hl s11 => ?_⟩
    have B := B.step (Xt.of B.x.sub s11)
    clear s11
    walk_at "rd"
    refine rd_notIn hul B.x.sub ?_
    walk_at "rd"
    refine ifNF hl ?_
    walk_at "rd"
    refine rd_lenL (SqL.of (B.x.sub _ _ hbe)) ?_
    rw [hal]
    walk_at "rd"
    refine ⟨.of_le (by decide) (by omega) (by decide) (by omega), fun pr hpr => ?_⟩
    rw [rgV_nat]
    have x12 := (Xt.refl B.x.sub).new (o := .lst ((List.range bs.length).map fun i : Nat => V.int (i : Int))) hpr
    have hrg : SqL K (upd F8 pr (.lst ((List.range bs.length).map fun i : Nat => V.int (i : Int)))) pr (((List.range bs.length).map fun i : Nat => (i : Int)).map V.int) := by
      rw [List.map_map]
      exact SqL.of upd_same
    have B := B.step x12
    have hla := x12.mono hla
    have hD13 := x12.mono hD13
    have hul := x12.mono hul
    generalize upd F8 pr (.lst ((List.range bs.length).map fun i : Nat => V.int (i : Int))) = F9 at x12 hrg B hla hD13 hul
    generalize upd H11 pr (.lst ((List.range bs.length).map fun i : Nat => V.int (i : Int))) = H12 at x12 B ⊢
    clear x12 hD15 hug hbe
    walk_at "rd"
    refine ⟨F9, hide bg H12, bg, pr, _, rfl, B.enter, hrg, by rw [List.length_map, List.length_range]; omega, fun po ms F10 H13 hperm B' hpo => ?_⟩
    have hla := B'.x.mono hla
    have hD13 := B'.x.mono hD13
    have hul := B'.x.mono hul
    have B := B.call B'
    clear B' hrg
    obtain ⟨order, rfl, hord⟩ : ∃ order : List Nat, ms = order.map (fun k : Nat => (k : Int)) ∧ order.Perm (List.range bs.length) := by
      refine ⟨ms.map Int.toNat, ?_, ?_⟩
      · rw [List.map_map]
        refine (List.map_id' ms).symm.trans (List.map_congr_left fun x hx => ?_)
        obtain ⟨k, _, rfl⟩ := List.mem_map.mp (hperm.mem_iff.mp hx)
        rfl
      · have h := hperm.map Int.toNat
        rw [List.map_map, show (Int.toNat ∘ fun i : Nat => (i : Int)) = id from funext fun i => Int.toNat_natCast i, List.map_id] at h
        exact h
    clear hperm
    have hol : order.length = bs.length := by rw [hord.length_eq, List.length_range]
    have hoR : LstR K NatR F10 (.ref po) order := ⟨po, _, rfl, SqL.of hpo, by
      rw [List.map_map]
      exact All2.of_map fun _ _ => rfl⟩
    obtain ⟨_, tvs, et, htvs, htva⟩ := id hD13
    cases et
    walk_at "rd"
    refine lc_list (R := NatR) (BunR K) (fun _ => true) (fun k : Nat => bs.getD k (0, ⟨0, 0, 0⟩)) hoR B.x.sub (by omega) (fun i k F11 H14 v hy x hv Z Z0 hZ _ => ?_) fun D19 F11 H14 x11 hD19 => ?_
    · obtain rfl : v = .int (k : Int) := hv
      have hk : k < bs.length := List.mem_range.mp (hord.mem_iff.mp (List.mem_of_getElem? hy))
      have hbk : bs[k]? = some (bs.getD k (0, ⟨0, 0, 0⟩)) := by
        rw [List.getD_eq_getElem?_getD, List.getElem?_eq_getElem hk]
        rfl
      obtain ⟨tv, e1, r1⟩ := htva.get hbk
      walk_at "wp"
      walk_at "rd"
      refine ⟨rfl, ?_⟩
      walk_at "rd"
      refine rd_ixL (x.sl htvs) (atI_get2 e1) ?_
      exact hZ rfl _ _ _ (Xt.refl x.sub) (x.mono r1)
    rw [filtT] at hD19
    have B := B.step x11
    have hla := x11.mono hla
    have hul := x11.mono hul
    have hoR := x11.mono hoR
    clear x11
    walk_at "rd"
    refine ⟨F11, .ref xl, .ref D19, c, _, rfl, B.x.sub, hla, hD19, (few_order few hord _).ok, by rw [List.length_map]; omega, fun uf F12 H15 x12 huf => ?_⟩
    have B := B.step x12
    have hul := x12.mono hul
    have hoR := x12.mono hoR
    clear x12
    walk_at "rd"
    have hll : (leastL (settlingL c bs)).length ≤ 16 := by
      unfold leastL
      refine Nat.le_trans (List.length_filter_le _ _) ?_
      unfold settlingL
      refine Nat.le_trans (List.length_filter_le _ _) ?_
      rw [List.length_range]
      exact hp16
    refine lc_list (R := NatR) NatR (fun _ => true) (fun l : Nat => movedL l order) hul B.x.sub (by omega) (fun i l F13 H16 v hy x hv Z Z0 hZ _ => ?_) fun D20 F13 H16 x13 hD20 => ?_
    · obtain rfl : v = .int (l : Int) := hv
      walk_at "wp"
      walk_at "rd"
      refine ⟨rfl, ?_⟩
      walk_at "rd"
      exact ⟨F13, .ref po, l, order, rfl, x.sub, x.mono hoR, by omega, fun k hk => by have := List.mem_range.mp (hord.mem_iff.mp hk); omega, fun H17 s17 => hZ rfl _ _ _ (Xt.of x.sub s17) rfl⟩
    rw [filtT] at hD20
    obtain ⟨_, mvs, em, hmvs, hmva⟩ := hD20
    cases em
    rw [nat_all2 hmva] at hmvs
    have huf := x13.mono huf
    walk_at "rd"
    refine ⟨D20, (leastL (settlingL c bs)).map fun l => ((movedL l order : Nat) : Int), rfl, ?_, by rw [List.length_map]; omega, fun ns' ps hperm hsort hps => ?_⟩
    · rw [List.map_map]
      rw [List.map_map] at hmvs
      exact x13.sub.seq hmvs
    · have xz := (Xt.refl x13.sub).new (o := .lst (ns'.map V.int)) hps
      have hfi : ILst K F13 uf ((leastL (settlingL c (order.map fun k => bs.getD k (0, ⟨0, 0, 0⟩)))).map fun n : Nat => (n : Int)) := by
        obtain ⟨fa, fvs, rfl, hfs, hfa⟩ := huf
        exact ⟨fa, fvs, rfl, hfs, hfa.mapR fun _ _ r => r⟩
      refine rd_eqD dat_int.lst (by decide) (sm_mo xz.fH hfi) (ilst_of (SqL.of upd_same)) ?_
      rw [order_law cok few hord (0, ⟨0, 0, 0⟩) hperm hsort, decide_eq_true rfl]
      exact q _
end
end Wp


set_option Elab.async false
set_option linter.all false
set_option maxRecDepth 100000
set_option maxHeartbeats 4000000
namespace Wp
open PySem PySem.Spec PyProof.Rows L2
/-! ### the head's call, where no repr is under way -/
section
variable {P : Program} {w : World} {K : PySem.W.Frag} {mg mb : Str → Option Value} {k : Nat} {fa a : Addr} {sp : Sp} {s₁ : Shared} {vs : List Value} {ns : List Int}
/-- from a tracked heap H in which at most the script stands -/
theorem callG_core (KX : K.In s₁.heap) (hns : s₁.heap.Ns mainGlobals mg) (hb : s₁.heap.Ns builtinsNs mb) (hbb : ∀ x : Str, x ≠ "__name__" → mb x = bootBuiltins x) (hlim : s₁.heap.NoLimit) (hg : s₁.gens = #[]) (hr : Room k callerA)
    (ha : s₁.heap.get? a = some { cls := .type "list", data := .seq vs.toArray })
    (F : ∀ base : Heap, K.In base → base.Ns mainGlobals mg → OkG P w K mg base k fa sp)
    (hCX : ∀ (H : Hp) (e : Value) (s' : Shared), CX0 [] H s₁ (fun _ _ _ => False) e s' → False)
    {H : Hp} (hO : ∀ b, H b = none ∨ ∃ o xs, H b = some (.frz o (.lst xs))) (hsp : sp [.ref a] H (fun v _ => v = .bl true) fun _ _ _ => False) (hok : HOk P w H s₁.heap) (hA : ∀ b, H b ≠ none → b = a) (hK : H a ≠ none → K.lookup a = none) :
    codeAny (model P w) callerA (.call (.ref fa) ⟨[.ref a], []⟩) (fun r s' => r = .ok (.ret (.bool true)) ∧ OldK s₁.heap s'.heap ∧ s'.os = s₁.os ∧ AllBare s'.gens) s₁ := by
  have at_a : ∀ {b : Addr}, H b ≠ none → s₁.heap.get? b = some { cls := .type "list", data := .seq vs.toArray } := fun {b} h => by
    rw [hA b h]
    exact ha
  have free : ∀ {b : Addr} {o : Obj}, s₁.heap.get? b = some o → (∀ es ep, o.data = .dict es ep → True) → (∃ es ep, o.data = .dict es ep) → H b = none := fun {b o} e _ ⟨es, ep, d⟩ => by
    rcases Classical.em (H b = none) with q | q
    · exact q
    · have := at_a q
      rw [e] at this
      cases this
      cases d
  have ns2 : ∀ {b : Addr} {m : Str → Option Value}, s₁.heap.Ns b m → (hidT s₁.heap H).Ns b m := fun {b m} ⟨o, es, ep, e, d, r⟩ => ⟨o, es, ep, hidT_get e (free e (fun _ _ _ => trivial) ⟨es, ep, d⟩), d, r⟩
  have kin : K.In (hidT s₁.heap H) := fun b o e => hidT_get (KX b o e) (by
    rcases Classical.em (H b = none) with q | q
    · exact q
    · have hb := hA b q
      subst hb
      have := hK q
      rw [e] at this
      cases this)
  have md : Mod K mg (hidT s₁.heap H) := by
    obtain ⟨mc, h1, h2⟩ := hlim
    exact ⟨kin, ns2 hns, ⟨mb, ns2 hb, hbb⟩, mc, ns2 h1, h2⟩
  have e0 : Env0 P w K mg (hidT s₁.heap H) callerA [] s₁ H := ⟨rfl, md, fun b o e => of_hidT e, Nat.le_of_eq (hidT_size _ _), trivial, fun b hb => absurd (show b ∈ ([] : List Addr) from hb) (by simp), hok, .of_eq hg⟩
  obtain ⟨⟨fd, ps, b, G⟩, kp⟩ := F _ kin (ns2 hns)
  have hl : 1 = ps.length := G.len _ _ _ _ hsp
  have hbd := b s₁ [.ref a] KX (by rw [List.append_nil]; exact hl)
  rw [List.append_nil] at hbd
  refine codeAny_mono (G.run callerA [] s₁ H ⟨[.ref a], []⟩ [.ref a] [.ref a] _ _ rfl hr e0 hbd (.cons rfl .nil) hsp) fun r s' h => ?_
  match r, h with
  | .error e, h => exact (hCX H e s' h).elim
  | .ok .next, h => exact False.elim h
  | .ok .brk, h => exact False.elim h
  | .ok .cont, h => exact False.elim h
  | .ok (.ret u), ⟨v, H', os, bare, un, hok', r', q⟩ =>
    obtain rfl : v = .bl true := q
    obtain rfl : u = Value.bool true := r'
    refine ⟨rfl, OldK.of_keep fun b o e => ?_, os, bare⟩
    rcases hO b with z | ⟨ob, xs, z⟩
    · exact un.keep b o e z (by intro z; exact absurd (show b ∈ ([] : List Addr) from z) (by simp)) (by simp)
    · obtain ⟨e1, _⟩ := hok b _ z
      obtain ⟨e2, _⟩ := hok' b _ (un.frzs b ob _ z)
      rw [e] at e1
      cases e1
      exact e2
theorem law_callG (KX : K.In s₁.heap) (hns : s₁.heap.Ns mainGlobals mg) (hb : s₁.heap.Ns builtinsNs mb) (hbb : ∀ x : Str, x ≠ "__name__" → mb x = bootBuiltins x) (hlim : s₁.heap.NoLimit) (hg : s₁.gens = #[])
    (ha : s₁.heap.get? a = some { cls := .type "list", data := .seq vs.toArray }) (hi : IntsAre vs ns) (hl : ns.length ≤ sizeLine) (hr : Room k callerA)
    (F : ∀ base : Heap, K.In base → base.Ns mainGlobals mg → OkG P w K mg base k fa sp)
    (hsp : ∀ H : Hp, SqL K H a (ns.map V.int) → sp [.ref a] H (fun v _ => v = .bl true) fun _ _ _ => False) (hCX : ∀ (H : Hp) (e : Value) (s' : Shared), CX0 [] H s₁ (fun _ _ _ => False) e s' → False) :
    codeAny (model P w) callerA (.call (.ref fa) ⟨[.ref a], []⟩) (fun r s' => r = .ok (.ret (.bool true)) ∧ OldK s₁.heap s'.heap ∧ s'.os = s₁.os ∧ AllBare s'.gens) s₁ := by
  have rv := vals_ints hi
  have lv := hi.length
  cases hk : K.lookup a with
  | some o =>
    have e := KX a o hk
    rw [ha] at e
    cases e
    exact callG_core (H := fun _ => none) KX hns hb hbb hlim hg hr ha F hCX (fun _ => .inl rfl) (hsp _ (.inr ⟨_, vs.toArray, _, hk, rfl, rfl, rfl, by rw [List.size_toArray, lv]; exact hl, by simpa using rv⟩)) (fun b u z => nomatch (show (none : Option HO) = some u from z)) (fun b z => absurd rfl z) fun z => absurd rfl z
  | none =>
    have h1 : ∀ b, b = a → (fun b => if b = a then some (HO.frz { cls := .type "list", data := .seq vs.toArray } (.lst (ns.map V.int))) else none : Hp) b = some (.frz { cls := .type "list", data := .seq vs.toArray } (.lst (ns.map V.int))) := fun b h => if_pos h
    have h2 : ∀ b, b ≠ a → (fun b => if b = a then some (HO.frz { cls := .type "list", data := .seq vs.toArray } (.lst (ns.map V.int))) else none : Hp) b = none := fun b h => if_neg h
    generalize (fun b => if b = a then some (HO.frz { cls := .type "list", data := .seq vs.toArray } (.lst (ns.map V.int))) else none : Hp) = H at h1 h2
    refine callG_core (H := H) KX hns hb hbb hlim hg hr ha F hCX (fun b => ?_) (hsp H (.inl (.inr ⟨_, h1 a rfl⟩))) (fun b u z => ?_) (fun b z => ?_) fun _ => hk
    · rcases Classical.em (b = a) with e | e
      · exact .inr ⟨_, _, h1 b e⟩
      · exact .inl (h2 b e)
    · rcases Classical.em (b = a) with e | e
      · rw [h1 b e] at z
        cases z
        subst e
        exact ⟨ha, by rw [List.length_map]; exact hl, vs, _, rv, ha⟩
      · rw [h2 b e] at z
        cases z
    · rcases Classical.em (b = a) with e | e
      · exact e
      · exact absurd (h2 b e) z
end
end Wp


set_option Elab.async false
set_option linter.all false
set_option maxRecDepth 100000
set_option maxHeartbeats 0
open PySem PySem.W PySem.Calls PyProof.Rows
theorem PySem.Challenge.cw_wholepoll_k92_whole_lots_of_small_lands_holds : PySem.Challenge.rw_wholepoll_k92_whole_lots_of_small_lands.Holds := by
  w_on; o_law
  refine HandSHeadRun.head_any (r := OpenLaw.row PySem.Challenge.rw_wholepoll_k92_whole_lots_of_small_lands) (q := view (OpenLaw.row PySem.Challenge.rw_wholepoll_k92_whole_lots_of_small_lands).prog [130]) (H := Wp.hk) (ob := Wp.ob) (M := 12000) (loose := Wp.loose) (d := HandSHeadRun.topDef (OpenLaw.row PySem.Challenge.rw_wholepoll_k92_whole_lots_of_small_lands).prog 130) (kwd := []) Wp.ob_eq
    (by kernel_rfl) (fun s => by kernel_rfl) Wp.run (by kernel_rfl) (by kernel_rfl) (by kernel_rfl) (by rfl) (by first | assumption | decide +kernel) (by decide +kernel) ⟨rfl, rfl, rfl, rfl, rfl, by decide +kernel⟩ ?hw ?hc
  case hw => w_witness2
  case hc =>
    refine Att.attach_call (l := PySem.Challenge.rw_wholepoll_k92_whole_lots_of_small_lands) (n := 63) rfl (by kernel_rfl) fun w s₀ s₁ mg mb fa o pm cd doc a vs ns G Y ho hd hcd hmg0 hobj hints hlen hg => ?_
    obtain ⟨K, KX, c⟩ := Y
    have hmg : mg ("law" : PySem.Str) = some (.ref fa) := by
      have e : (HandSHeadRun.topDef (OpenLaw.row PySem.Challenge.rw_wholepoll_k92_whole_lots_of_small_lands).prog 130).name = ("law" : PySem.Str) := by kernel_rfl
      rw [← e]
      exact hmg0
    have T := Wp.txt_of KX G.T.g c
    have e := hmg.symm.trans T.g_law
    cases e
    exact Wp.law_callG (k := 16) (sp := Wp.sp_law K) KX G.T.g G.T.b G.T.builtins G.T.nolimit hg hobj hints (Nat.le_trans hlen (by decide)) ⟨rfl, by decide, by decide⟩ (fun base _ _ => Wp.okG_law T) (fun H hS => ⟨a, ns, rfl, hS, hlen, fun _ => rfl⟩) (fun _ _ _ z => z)


import PyProof.Rows.All
import Wide.All
import OpenK.AllK
import Wide.FinOn
import KE.KStateDown
import KE.KDictPairs
import Lean
import HandS.ForMost
import HandS.More
import HandS.WordsExc
import HandS.Defaults
import HandS.Codes
import HandS.Conv
import HandS.Zip
import HandS.TupAny
import HandS.DictTup
import HandS.DictEq
import HandS.DeepEq
import HandS.IsInst
import HandS.Small
import HandS.Style
import HandS.Flow
import HandS.Wide
import HandS.EndBits
import HandS.Head0
import HandS.Head1
import HandS.Head2
import HandS.HeadEnd
import HandS.HeadHook1
import HandS.HeadHook2
import HandS.Walk
import KE.GoesMore
import PySem.Challenge.RW_swapstride_k55_elder_alone_is_plain
set_option Elab.async false
set_option linter.all false
set_option maxRecDepth 100000
set_option maxHeartbeats 4000000
namespace SwK
open PySem PySem.Spec PyProof.Rows L2
theorem lt1000 {n : Nat} (h : Nat.ble (n + 1) 1000 = true) : n < 1000 := Nat.le_of_ble_eq_true h
def topS (i : Nat) : Stmt := PySem.Challenge.pw_swapstride_k55_elder_alone_is_plain.main.body.getD i (.Pass ⟨0, 0, 0, 0⟩)
abbrev s_named : Stmt := topS 2
abbrev s_hand_of : Stmt := topS 3
abbrev s_ways_of : Stmt := topS 5
abbrev s_mark_row : Stmt := topS 6
abbrev s_kind_told : Stmt := topS 16
abbrev s_sort_of : Stmt := topS 17
abbrev s_parts_of : Stmt := topS 18
abbrev s_need_kind : Stmt := topS 22
abbrev s_need_sort : Stmt := topS 23
abbrev s_named_sort : Stmt := topS 24
abbrev s_part_kind : Stmt := topS 25
abbrev s_kind_of_rec : Stmt := topS 26
abbrev s_kind_of_tag : Stmt := topS 28
abbrev s_kind_of_box : Stmt := topS 33
abbrev s_kind_of : Stmt := topS 34
abbrev s_goes_to : Stmt := topS 37
abbrev s_boxes_over_ways : Stmt := topS 38
abbrev s_look_term : Stmt := topS 40
abbrev s_is_term : Stmt := topS 41
abbrev s_look_arms : Stmt := topS 42
abbrev s_look_way : Stmt := topS 43
abbrev s_look_ways : Stmt := topS 44
abbrev s_rec_rule : Stmt := topS 45
abbrev s_alt_rule : Stmt := topS 46
abbrev s_made_ways : Stmt := topS 47
abbrev s_boxes_over_places : Stmt := topS 49
abbrev s_sets_by_rules : Stmt := topS 53
abbrev s_marks_of : Stmt := topS 54
abbrev s_made_places : Stmt := topS 55
abbrev s_nought : Stmt := topS 57
abbrev s_field : Stmt := topS 58
abbrev s_worth_of_two : Stmt := topS 60
abbrev s_worth_of_case : Stmt := topS 61
abbrev s_worth : Stmt := topS 62
abbrev s_turned : Stmt := topS 64
abbrev s_need_fit : Stmt := topS 66
abbrev s_Over_init : Stmt := inClass (topS 67) 0
abbrev s_place_of : Stmt := topS 68
abbrev s_boxes_turned : Stmt := topS 69
abbrev s_brought : Stmt := topS 70
abbrev s_Before_init : Stmt := inClass (topS 75) 0
abbrev s_Half_init : Stmt := inClass (topS 76) 0
abbrev s_Half_all_parts : Stmt := inClass (topS 76) 1
abbrev s_Half_seen : Stmt := inClass (topS 76) 2
abbrev s_Half_becomes : Stmt := inClass (topS 76) 3
abbrev s_first_half : Stmt := topS 77
abbrev s_led_to : Stmt := topS 78
abbrev s_Mixed_init : Stmt := inClass (topS 79) 0
abbrev s_Mixed_make_at : Stmt := inClass (topS 79) 1
abbrev s_Mixed_takes : Stmt := inClass (topS 79) 2
abbrev s_Mixed_step : Stmt := inClass (topS 79) 3
abbrev s_Mixed_change : Stmt := inClass (topS 79) 4
abbrev s_Mixed_make_of : Stmt := inClass (topS 79) 7
abbrev s_Mixed_stand : Stmt := inClass (topS 79) 8
abbrev s_Mixed_told : Stmt := inClass (topS 79) 9
abbrev s_Mixed_letters : Stmt := inClass (topS 79) 10
abbrev s_Mixed_count : Stmt := inClass (topS 79) 11
abbrev s_same : Stmt := topS 80
abbrev s_first_stand : Stmt := topS 82
abbrev s_Lone_init : Stmt := inClass (topS 84) 0
abbrev s_Lone_stand : Stmt := inClass (topS 84) 1
abbrev s_Lone_told : Stmt := inClass (topS 84) 2
abbrev s_Lone_count : Stmt := inClass (topS 84) 5
abbrev s_Lone_value : Stmt := inClass (topS 84) 6
abbrev s_Lone_step : Stmt := inClass (topS 84) 7
abbrev s_Plain_init : Stmt := inClass (topS 86) 0
abbrev s_Plain_share : Stmt := inClass (topS 86) 1
abbrev s_Plain_step : Stmt := inClass (topS 86) 2
abbrev s_Plain_stand : Stmt := inClass (topS 86) 3
abbrev s_Plain_told : Stmt := inClass (topS 86) 4
abbrev s_Plain_count : Stmt := inClass (topS 86) 5
abbrev s_Plain_letters : Stmt := inClass (topS 86) 6
abbrev s_law_feed : Stmt := topS 88
abbrev s_law_take : Stmt := topS 89
abbrev s_law_names : Stmt := topS 90
abbrev s_law_number : Stmt := topS 91
abbrev s_law_sort_of : Stmt := topS 92
abbrev s_law_size : Stmt := topS 93
abbrev s_law_small : Stmt := topS 94
abbrev s_law_parts : Stmt := topS 95
abbrev s_law_kinds : Stmt := topS 96
abbrev s_law_boxed : Stmt := topS 97
abbrev s_law_arms : Stmt := topS 98
abbrev s_law_whole_term : Stmt := topS 99
abbrev s_law_term : Stmt := topS 100
abbrev s_law_new_term : Stmt := topS 101
abbrev s_law_any_kind : Stmt := topS 102
abbrev s_law_channels : Stmt := topS 103
abbrev s_law_boxes : Stmt := topS 104
abbrev s_law_into : Stmt := topS 105
abbrev s_law_deal : Stmt := topS 106
abbrev s_law_rows : Stmt := topS 107
abbrev s_law_make : Stmt := topS 108
abbrev s_law_hands : Stmt := topS 109
abbrev s_law_alike : Stmt := topS 110
abbrev s_law : Stmt := topS 111

def d_named : He.DefD := ⟨("named", none), "named", "named", defArgs s_named, defBody s_named, defScope s_named, [], []⟩
def d_hand_of : He.DefD := ⟨("hand_of", none), "hand_of", "hand_of", defArgs s_hand_of, defBody s_hand_of, defScope s_hand_of, [], []⟩
def d_ways_of : He.DefD := ⟨("ways_of", none), "ways_of", "ways_of", defArgs s_ways_of, defBody s_ways_of, defScope s_ways_of, [], []⟩
def d_mark_row : He.DefD := ⟨("mark_row", none), "mark_row", "mark_row", defArgs s_mark_row, defBody s_mark_row, defScope s_mark_row, [], []⟩
def d_kind_told : He.DefD := ⟨("kind_told", none), "kind_told", "kind_told", defArgs s_kind_told, defBody s_kind_told, defScope s_kind_told, [], []⟩
def d_sort_of : He.DefD := ⟨("sort_of", none), "sort_of", "sort_of", defArgs s_sort_of, defBody s_sort_of, defScope s_sort_of, [], []⟩
def d_parts_of : He.DefD := ⟨("parts_of", none), "parts_of", "parts_of", defArgs s_parts_of, defBody s_parts_of, defScope s_parts_of, [], []⟩
def d_need_kind : He.DefD := ⟨("need_kind", none), "need_kind", "need_kind", defArgs s_need_kind, defBody s_need_kind, defScope s_need_kind, [], []⟩
def d_need_sort : He.DefD := ⟨("need_sort", none), "need_sort", "need_sort", defArgs s_need_sort, defBody s_need_sort, defScope s_need_sort, [], []⟩
def d_named_sort : He.DefD := ⟨("named_sort", none), "named_sort", "named_sort", defArgs s_named_sort, defBody s_named_sort, defScope s_named_sort, [], []⟩
def d_part_kind : He.DefD := ⟨("part_kind", none), "part_kind", "part_kind", defArgs s_part_kind, defBody s_part_kind, defScope s_part_kind, [], []⟩
def d_kind_of_rec : He.DefD := ⟨("kind_of_rec", none), "kind_of_rec", "kind_of_rec", defArgs s_kind_of_rec, defBody s_kind_of_rec, defScope s_kind_of_rec, [], []⟩
def d_kind_of_tag : He.DefD := ⟨("kind_of_tag", none), "kind_of_tag", "kind_of_tag", defArgs s_kind_of_tag, defBody s_kind_of_tag, defScope s_kind_of_tag, [], []⟩
def d_kind_of_box : He.DefD := ⟨("kind_of_box", none), "kind_of_box", "kind_of_box", defArgs s_kind_of_box, defBody s_kind_of_box, defScope s_kind_of_box, [], []⟩
def d_kind_of : He.DefD := ⟨("kind_of", none), "kind_of", "kind_of", defArgs s_kind_of, defBody s_kind_of, defScope s_kind_of, [], []⟩
def d_goes_to : He.DefD := ⟨("goes_to", none), "goes_to", "goes_to", defArgs s_goes_to, defBody s_goes_to, defScope s_goes_to, [], []⟩
def d_boxes_over_ways : He.DefD := ⟨("boxes_over_ways", none), "boxes_over", "boxes_over", defArgs s_boxes_over_ways, defBody s_boxes_over_ways, defScope s_boxes_over_ways, [], []⟩
def d_look_term : He.DefD := ⟨("look_term", none), "look_term", "look_term", defArgs s_look_term, defBody s_look_term, defScope s_look_term, [], []⟩
def d_is_term : He.DefD := ⟨("is_term", none), "is_term", "is_term", defArgs s_is_term, defBody s_is_term, defScope s_is_term, [], []⟩
def d_look_arms : He.DefD := ⟨("look_arms", none), "look_arms", "look_arms", defArgs s_look_arms, defBody s_look_arms, defScope s_look_arms, [], []⟩
def d_look_way : He.DefD := ⟨("look_way", none), "look_way", "look_way", defArgs s_look_way, defBody s_look_way, defScope s_look_way, [], []⟩
def d_look_ways : He.DefD := ⟨("look_ways", none), "look_ways", "look_ways", defArgs s_look_ways, defBody s_look_ways, defScope s_look_ways, [], []⟩
def d_rec_rule : He.DefD := ⟨("rec_rule", none), "rec_rule", "rec_rule", defArgs s_rec_rule, defBody s_rec_rule, defScope s_rec_rule, [], []⟩
def d_alt_rule : He.DefD := ⟨("alt_rule", none), "alt_rule", "alt_rule", defArgs s_alt_rule, defBody s_alt_rule, defScope s_alt_rule, [], []⟩
def d_made_ways : He.DefD := ⟨("made_ways", none), "made_ways", "made_ways", defArgs s_made_ways, defBody s_made_ways, defScope s_made_ways, [], []⟩
def d_boxes_over_places : He.DefD := ⟨("boxes_over_places", none), "boxes_over", "boxes_over", defArgs s_boxes_over_places, defBody s_boxes_over_places, defScope s_boxes_over_places, [], []⟩
def d_sets_by_rules : He.DefD := ⟨("sets_by_rules", none), "sets_by_rules", "sets_by_rules", defArgs s_sets_by_rules, defBody s_sets_by_rules, defScope s_sets_by_rules, [], []⟩
def d_marks_of : He.DefD := ⟨("marks_of", none), "marks_of", "marks_of", defArgs s_marks_of, defBody s_marks_of, defScope s_marks_of, [], []⟩
def d_made_places : He.DefD := ⟨("made_places", none), "made_places", "made_places", defArgs s_made_places, defBody s_made_places, defScope s_made_places, [], []⟩
def d_nought : He.DefD := ⟨("nought", none), "nought", "nought", defArgs s_nought, defBody s_nought, defScope s_nought, [], []⟩
def d_field : He.DefD := ⟨("field", none), "field", "field", defArgs s_field, defBody s_field, defScope s_field, [], []⟩
def d_worth_of_two : He.DefD := ⟨("worth_of_two", none), "worth_of_two", "worth_of_two", defArgs s_worth_of_two, defBody s_worth_of_two, defScope s_worth_of_two, [], []⟩
def d_worth_of_case : He.DefD := ⟨("worth_of_case", none), "worth_of_case", "worth_of_case", defArgs s_worth_of_case, defBody s_worth_of_case, defScope s_worth_of_case, [], []⟩
def d_worth : He.DefD := ⟨("worth", none), "worth", "worth", defArgs s_worth, defBody s_worth, defScope s_worth, [], []⟩
def d_turned : He.DefD := ⟨("turned", none), "turned", "turned", defArgs s_turned, defBody s_turned, defScope s_turned, [], []⟩
def d_need_fit : He.DefD := ⟨("need_fit", none), "need_fit", "need_fit", defArgs s_need_fit, defBody s_need_fit, defScope s_need_fit, [], []⟩
def d_Over_init : He.DefD := ⟨("Over", some "__init__"), "__init__", "Over.__init__", defArgs s_Over_init, defBody s_Over_init, defScope s_Over_init, [], []⟩
def d_place_of : He.DefD := ⟨("place_of", none), "place_of", "place_of", defArgs s_place_of, defBody s_place_of, defScope s_place_of, [], []⟩
def d_boxes_turned : He.DefD := ⟨("boxes_turned", none), "boxes_turned", "boxes_turned", defArgs s_boxes_turned, defBody s_boxes_turned, defScope s_boxes_turned, [], []⟩
def d_brought : He.DefD := ⟨("brought", none), "brought", "brought", defArgs s_brought, defBody s_brought, defScope s_brought, [], []⟩
def d_Before_init : He.DefD := ⟨("Before", some "__init__"), "__init__", "Before.__init__", defArgs s_Before_init, defBody s_Before_init, defScope s_Before_init, [], []⟩
def d_Half_init : He.DefD := ⟨("Half", some "__init__"), "__init__", "Half.__init__", defArgs s_Half_init, defBody s_Half_init, defScope s_Half_init, [], []⟩
def d_Half_all_parts : He.DefD := ⟨("Half", some "all_parts"), "all_parts", "Half.all_parts", defArgs s_Half_all_parts, defBody s_Half_all_parts, defScope s_Half_all_parts, [], []⟩
def d_Half_seen : He.DefD := ⟨("Half", some "seen"), "seen", "Half.seen", defArgs s_Half_seen, defBody s_Half_seen, defScope s_Half_seen, [], []⟩
def d_Half_becomes : He.DefD := ⟨("Half", some "becomes"), "becomes", "Half.becomes", defArgs s_Half_becomes, defBody s_Half_becomes, defScope s_Half_becomes, [], []⟩
def d_first_half : He.DefD := ⟨("first_half", none), "first_half", "first_half", defArgs s_first_half, defBody s_first_half, defScope s_first_half, [], []⟩
def d_led_to : He.DefD := ⟨("led_to", none), "led_to", "led_to", defArgs s_led_to, defBody s_led_to, defScope s_led_to, [], []⟩
def d_Mixed_init : He.DefD := ⟨("Mixed", some "__init__"), "__init__", "Mixed.__init__", defArgs s_Mixed_init, defBody s_Mixed_init, defScope s_Mixed_init, [], []⟩
def d_Mixed_make_at : He.DefD := ⟨("Mixed", some "make_at"), "make_at", "Mixed.make_at", defArgs s_Mixed_make_at, defBody s_Mixed_make_at, defScope s_Mixed_make_at, [], []⟩
def d_Mixed_takes : He.DefD := ⟨("Mixed", some "takes"), "takes", "Mixed.takes", defArgs s_Mixed_takes, defBody s_Mixed_takes, defScope s_Mixed_takes, [], []⟩
def d_Mixed_step : He.DefD := ⟨("Mixed", some "step"), "step", "Mixed.step", defArgs s_Mixed_step, defBody s_Mixed_step, defScope s_Mixed_step, [], []⟩
def d_Mixed_change : He.DefD := ⟨("Mixed", some "change"), "change", "Mixed.change", defArgs s_Mixed_change, defBody s_Mixed_change, defScope s_Mixed_change, [], []⟩
def d_Mixed_make_of : He.DefD := ⟨("Mixed", some "make_of"), "make_of", "Mixed.make_of", defArgs s_Mixed_make_of, defBody s_Mixed_make_of, defScope s_Mixed_make_of, [], []⟩
def d_Mixed_stand : He.DefD := ⟨("Mixed", some "stand"), "stand", "Mixed.stand", defArgs s_Mixed_stand, defBody s_Mixed_stand, defScope s_Mixed_stand, [], []⟩
def d_Mixed_told : He.DefD := ⟨("Mixed", some "told"), "told", "Mixed.told", defArgs s_Mixed_told, defBody s_Mixed_told, defScope s_Mixed_told, [], []⟩
def d_Mixed_letters : He.DefD := ⟨("Mixed", some "letters"), "letters", "Mixed.letters", defArgs s_Mixed_letters, defBody s_Mixed_letters, defScope s_Mixed_letters, [], []⟩
def d_Mixed_count : He.DefD := ⟨("Mixed", some "count"), "count", "Mixed.count", defArgs s_Mixed_count, defBody s_Mixed_count, defScope s_Mixed_count, [], []⟩
def d_same : He.DefD := ⟨("same", none), "same", "same", defArgs s_same, defBody s_same, defScope s_same, [], []⟩
def d_first_stand : He.DefD := ⟨("first_stand", none), "first_stand", "first_stand", defArgs s_first_stand, defBody s_first_stand, defScope s_first_stand, [], []⟩
def d_Lone_init : He.DefD := ⟨("Lone", some "__init__"), "__init__", "Lone.__init__", defArgs s_Lone_init, defBody s_Lone_init, defScope s_Lone_init, [.non], []⟩
def d_Lone_stand : He.DefD := ⟨("Lone", some "stand"), "stand", "Lone.stand", defArgs s_Lone_stand, defBody s_Lone_stand, defScope s_Lone_stand, [], []⟩
def d_Lone_told : He.DefD := ⟨("Lone", some "told"), "told", "Lone.told", defArgs s_Lone_told, defBody s_Lone_told, defScope s_Lone_told, [], []⟩
def d_Lone_count : He.DefD := ⟨("Lone", some "count"), "count", "Lone.count", defArgs s_Lone_count, defBody s_Lone_count, defScope s_Lone_count, [], []⟩
def d_Lone_value : He.DefD := ⟨("Lone", some "value"), "value", "Lone.value", defArgs s_Lone_value, defBody s_Lone_value, defScope s_Lone_value, [], []⟩
def d_Lone_step : He.DefD := ⟨("Lone", some "step"), "step", "Lone.step", defArgs s_Lone_step, defBody s_Lone_step, defScope s_Lone_step, [], []⟩
def d_Plain_init : He.DefD := ⟨("Plain", some "__init__"), "__init__", "Plain.__init__", defArgs s_Plain_init, defBody s_Plain_init, defScope s_Plain_init, [], []⟩
def d_Plain_share : He.DefD := ⟨("Plain", some "share"), "share", "Plain.share", defArgs s_Plain_share, defBody s_Plain_share, defScope s_Plain_share, [], []⟩
def d_Plain_step : He.DefD := ⟨("Plain", some "step"), "step", "Plain.step", defArgs s_Plain_step, defBody s_Plain_step, defScope s_Plain_step, [], []⟩
def d_Plain_stand : He.DefD := ⟨("Plain", some "stand"), "stand", "Plain.stand", defArgs s_Plain_stand, defBody s_Plain_stand, defScope s_Plain_stand, [], []⟩
def d_Plain_told : He.DefD := ⟨("Plain", some "told"), "told", "Plain.told", defArgs s_Plain_told, defBody s_Plain_told, defScope s_Plain_told, [], []⟩
def d_Plain_count : He.DefD := ⟨("Plain", some "count"), "count", "Plain.count", defArgs s_Plain_count, defBody s_Plain_count, defScope s_Plain_count, [], []⟩
def d_Plain_letters : He.DefD := ⟨("Plain", some "letters"), "letters", "Plain.letters", defArgs s_Plain_letters, defBody s_Plain_letters, defScope s_Plain_letters, [], []⟩
def d_law_feed : He.DefD := ⟨("_law_feed", none), "_law_feed", "_law_feed", defArgs s_law_feed, defBody s_law_feed, defScope s_law_feed, [], []⟩
def d_law_take : He.DefD := ⟨("_law_take", none), "_law_take", "_law_take", defArgs s_law_take, defBody s_law_take, defScope s_law_take, [], []⟩
def d_law_names : He.DefD := ⟨("_law_names", none), "_law_names", "_law_names", defArgs s_law_names, defBody s_law_names, defScope s_law_names, [], []⟩
def d_law_number : He.DefD := ⟨("_law_number", none), "_law_number", "_law_number", defArgs s_law_number, defBody s_law_number, defScope s_law_number, [], []⟩
def d_law_sort_of : He.DefD := ⟨("_law_sort_of", none), "_law_sort_of", "_law_sort_of", defArgs s_law_sort_of, defBody s_law_sort_of, defScope s_law_sort_of, [], []⟩
def d_law_size : He.DefD := ⟨("_law_size", none), "_law_size", "_law_size", defArgs s_law_size, defBody s_law_size, defScope s_law_size, [], []⟩
def d_law_small : He.DefD := ⟨("_law_small", none), "_law_small", "_law_small", defArgs s_law_small, defBody s_law_small, defScope s_law_small, [], []⟩
def d_law_parts : He.DefD := ⟨("_law_parts", none), "_law_parts", "_law_parts", defArgs s_law_parts, defBody s_law_parts, defScope s_law_parts, [], []⟩
def d_law_kinds : He.DefD := ⟨("_law_kinds", none), "_law_kinds", "_law_kinds", defArgs s_law_kinds, defBody s_law_kinds, defScope s_law_kinds, [], []⟩
def d_law_boxed : He.DefD := ⟨("_law_boxed", none), "_law_boxed", "_law_boxed", defArgs s_law_boxed, defBody s_law_boxed, defScope s_law_boxed, [], []⟩
def d_law_arms : He.DefD := ⟨("_law_arms", none), "_law_arms", "_law_arms", defArgs s_law_arms, defBody s_law_arms, defScope s_law_arms, [], []⟩
def d_law_whole_term : He.DefD := ⟨("_law_whole_term", none), "_law_whole_term", "_law_whole_term", defArgs s_law_whole_term, defBody s_law_whole_term, defScope s_law_whole_term, [], []⟩
def d_law_term : He.DefD := ⟨("_law_term", none), "_law_term", "_law_term", defArgs s_law_term, defBody s_law_term, defScope s_law_term, [], []⟩
def d_law_new_term : He.DefD := ⟨("_law_new_term", none), "_law_new_term", "_law_new_term", defArgs s_law_new_term, defBody s_law_new_term, defScope s_law_new_term, [], []⟩
def d_law_any_kind : He.DefD := ⟨("_law_any_kind", none), "_law_any_kind", "_law_any_kind", defArgs s_law_any_kind, defBody s_law_any_kind, defScope s_law_any_kind, [], []⟩
def d_law_channels : He.DefD := ⟨("_law_channels", none), "_law_channels", "_law_channels", defArgs s_law_channels, defBody s_law_channels, defScope s_law_channels, [], []⟩
def d_law_boxes : He.DefD := ⟨("_law_boxes", none), "_law_boxes", "_law_boxes", defArgs s_law_boxes, defBody s_law_boxes, defScope s_law_boxes, [], []⟩
def d_law_into : He.DefD := ⟨("_law_into", none), "_law_into", "_law_into", defArgs s_law_into, defBody s_law_into, defScope s_law_into, [], []⟩
def d_law_deal : He.DefD := ⟨("_law_deal", none), "_law_deal", "_law_deal", defArgs s_law_deal, defBody s_law_deal, defScope s_law_deal, [], []⟩
def d_law_rows : He.DefD := ⟨("_law_rows", none), "_law_rows", "_law_rows", defArgs s_law_rows, defBody s_law_rows, defScope s_law_rows, [], []⟩
def d_law_make : He.DefD := ⟨("_law_make", none), "_law_make", "_law_make", defArgs s_law_make, defBody s_law_make, defScope s_law_make, [], []⟩
def d_law_hands : He.DefD := ⟨("_law_hands", none), "_law_hands", "_law_hands", defArgs s_law_hands, defBody s_law_hands, defScope s_law_hands, [], []⟩
def d_law_alike : He.DefD := ⟨("_law_alike", none), "_law_alike", "_law_alike", defArgs s_law_alike, defBody s_law_alike, defScope s_law_alike, [], []⟩
def d_law : He.DefD := ⟨("law", none), "law", "law", defArgs s_law, defBody s_law, defScope s_law, [], []⟩
def fnPart0 : List He.DefD := [d_named, d_hand_of, d_ways_of, d_mark_row, d_kind_told, d_sort_of, d_parts_of, d_need_kind, d_need_sort, d_named_sort, d_part_kind, d_kind_of_rec, d_kind_of_tag, d_kind_of_box, d_kind_of, d_goes_to, d_boxes_over_ways, d_look_term, d_is_term, d_look_arms, d_look_way, d_look_ways, d_rec_rule, d_alt_rule, d_made_ways, d_boxes_over_places, d_sets_by_rules, d_marks_of, d_made_places, d_nought]
def fnPart1 : List He.DefD := [d_field, d_worth_of_two, d_worth_of_case, d_worth, d_turned, d_need_fit, d_Over_init, d_place_of, d_boxes_turned, d_brought, d_Before_init, d_Half_init, d_Half_all_parts, d_Half_seen, d_Half_becomes, d_first_half, d_led_to, d_Mixed_init, d_Mixed_make_at, d_Mixed_takes, d_Mixed_step, d_Mixed_change, d_Mixed_make_of, d_Mixed_stand, d_Mixed_told, d_Mixed_letters, d_Mixed_count, d_same, d_first_stand, d_Lone_init]
def fnPart2 : List He.DefD := [d_Lone_stand, d_Lone_told, d_Lone_count, d_Lone_value, d_Lone_step, d_Plain_init, d_Plain_share, d_Plain_step, d_Plain_stand, d_Plain_told, d_Plain_count, d_Plain_letters, d_law_feed, d_law_take, d_law_names, d_law_number, d_law_sort_of, d_law_size, d_law_small, d_law_parts, d_law_kinds, d_law_boxed, d_law_arms, d_law_whole_term, d_law_term, d_law_new_term, d_law_any_kind, d_law_channels, d_law_boxes, d_law_into]
def fnPart3 : List He.DefD := [d_law_deal, d_law_rows, d_law_make, d_law_hands, d_law_alike, d_law]
def fnAll : List He.DefD := fnPart0 ++ fnPart1 ++ fnPart2 ++ fnPart3
def faPart0 : List He.Fa := [.glo "named", .glo "hand_of", .glo "ways_of", .glo "mark_row", .glo "kind_told", .glo "sort_of", .glo "parts_of", .glo "need_kind", .glo "need_sort", .glo "named_sort", .glo "part_kind", .glo "kind_of_rec", .glo "kind_of_tag", .glo "kind_of_box", .glo "kind_of", .glo "goes_to", .glo "boxes_over_ways", .glo "look_term", .glo "is_term", .glo "look_arms", .glo "look_way", .glo "look_ways", .glo "rec_rule", .glo "alt_rule", .glo "made_ways", .glo "boxes_over_places", .glo "sets_by_rules", .glo "marks_of", .glo "made_places", .glo "nought"]
def faPart1 : List He.Fa := [.glo "field", .glo "worth_of_two", .glo "worth_of_case", .glo "worth", .glo "turned", .glo "need_fit", .glo "place_of", .glo "boxes_turned", .glo "brought", .glo "first_half", .glo "led_to", .glo "same", .glo "first_stand", .glo "_law_feed", .glo "_law_take", .glo "_law_names", .glo "_law_number", .glo "_law_sort_of", .glo "_law_size", .glo "_law_small", .glo "_law_parts", .glo "_law_kinds", .glo "_law_boxed", .glo "_law_arms", .glo "_law_whole_term", .glo "_law_term", .glo "_law_new_term", .glo "_law_any_kind", .glo "_law_channels", .glo "_law_boxes"]
def faPart2 : List He.Fa := [.glo "_law_into", .glo "_law_deal", .glo "_law_rows", .glo "_law_make", .glo "_law_hands", .glo "_law_alike", .glo "law", .glo "Over", .glo "Before", .glo "Half", .glo "Mixed", .glo "Lone", .glo "Plain", .free "len", .free "range", .free "tuple", .free "list", .free "dict", .free "sum", .free "max", .free "min", .free "int", .free "isinstance", .free "zip", .free "enumerate", .free "str", .free "bool", .int "WIDE" 4294967296, .int "ELDER" 1, .int "CHANGED" 2]
def faPart3 : List He.Fa := [.str "NUM" "num", .cls "Over", .mkr "Over", .noat "Over" "first", .noat "Over" "second", .noat "Over" "ways", .noat "Over" "places", .noat "Over" "lacking", .cls "Before", .mkr "Before", .noat "Before" "line", .noat "Before" "boxes", .noat "Before" "tally", .noat "Before" "taken", .cls "Half", .mkr "Half", .noat "Half" "make", .noat "Half" "line", .noat "Half" "boxes", .noat "Half" "notes", .noat "Half" "tally", .noat "Half" "before", .cls "Mixed", .mkr "Mixed", .noat "Mixed" "over", .noat "Mixed" "hands", .noat "Mixed" "rows", .cls "Lone", .mkr "Lone", .noat "Lone" "kinds"]
def faPart4 : List He.Fa := [.noat "Lone" "rows", .noat "Lone" "leads", .noat "Lone" "at", .noat "Lone" "held", .noat "Lone" "coming", .noat "Lone" "gone", .noat "Lone" "notes", .noat "Lone" "done", .cls "Plain", .mkr "Plain", .noat "Plain" "make", .noat "Plain" "hands", .noat "Plain" "lines", .meth "Half" "all_parts", .meth "Half" "seen", .meth "Half" "becomes", .meth "Mixed" "make_at", .meth "Mixed" "takes", .meth "Mixed" "step", .meth "Mixed" "change", .meth "Mixed" "make_of", .meth "Mixed" "stand", .meth "Mixed" "told", .meth "Mixed" "letters", .meth "Mixed" "count", .meth "Lone" "stand", .meth "Lone" "told", .meth "Lone" "count", .meth "Lone" "value", .meth "Lone" "step"]
def faPart5 : List He.Fa := [.meth "Plain" "share", .meth "Plain" "step", .meth "Plain" "stand", .meth "Plain" "told", .meth "Plain" "count", .meth "Plain" "letters"]
def faAll : List He.Fa := faPart0 ++ faPart1 ++ faPart2 ++ faPart3 ++ faPart4 ++ faPart5
def fnNames0 : List Str := ["named", "hand_of", "ways_of", "mark_row", "kind_told", "sort_of", "parts_of", "need_kind", "need_sort", "named_sort", "part_kind", "kind_of_rec", "kind_of_tag", "kind_of_box", "kind_of", "goes_to", "boxes_over_ways", "look_term", "is_term", "look_arms", "look_way", "look_ways", "rec_rule", "alt_rule", "made_ways", "boxes_over_places", "sets_by_rules", "marks_of", "made_places", "nought"]
def fnNames1 : List Str := ["field", "worth_of_two", "worth_of_case", "worth", "turned", "need_fit", "place_of", "boxes_turned", "brought", "first_half", "led_to", "same", "first_stand", "_law_feed", "_law_take", "_law_names", "_law_number", "_law_sort_of", "_law_size", "_law_small", "_law_parts", "_law_kinds", "_law_boxed", "_law_arms", "_law_whole_term", "_law_term", "_law_new_term", "_law_any_kind", "_law_channels", "_law_boxes"]
def fnNames2 : List Str := ["_law_into", "_law_deal", "_law_rows", "_law_make", "_law_hands", "_law_alike", "law"]
def fnNames : List Str := fnNames0 ++ fnNames1 ++ fnNames2
def clsNames : List (Str × List Str) := [("Over", ["__init__"]), ("Before", ["__init__"]), ("Half", ["__init__", "all_parts", "seen", "becomes"]), ("Mixed", ["__init__", "make_at", "takes", "step", "change", "make_of", "stand", "told", "letters", "count"]), ("Lone", ["__init__", "stand", "told", "count", "value", "step"]), ("Plain", ["__init__", "share", "step", "stand", "told", "count", "letters"])]
def loosePart0 : List PySem.Str := ["_wall", "named", "hand_of", "channel_of", "ways_of", "mark_row", "SwapError", "Twice", "NoName", "NoCount", "WrongKind", "Lacks", "NoFit", "kind_told", "sort_of", "parts_of", "WIDE", "NUM", "need_kind", "need_sort", "named_sort", "part_kind", "kind_of_rec", "kind_of_get", "kind_of_tag", "kind_of_arm", "kind_of_case", "kind_of_two", "kind_of_if", "kind_of_box"]
def loosePart1 : List PySem.Str := ["kind_of", "nought_term", "goes_to", "boxes_over", "boxes_over_ways", "look_term", "is_term", "look_arms", "look_way", "look_ways", "rec_rule", "alt_rule", "made_ways", "boxes_over_places", "need_mark", "look_place", "sets_by_rules", "marks_of", "made_places", "nought", "field", "worth_of_two", "worth_of_case", "worth", "turned", "need_fit", "Over", "place_of", "boxes_turned", "brought"]
def loosePart2 : List PySem.Str := ["letter_over", "ELDER", "CHANGED", "Before", "Half", "first_half", "led_to", "Mixed", "same", "first_stand", "copied", "Lone", "Plain", "_law_feed", "_law_take", "_law_names", "_law_number", "_law_sort_of", "_law_size", "_law_small", "_law_parts", "_law_kinds", "_law_boxed", "_law_arms", "_law_whole_term", "_law_term", "_law_new_term", "_law_any_kind", "_law_channels", "_law_boxes"]
def loosePart3 : List PySem.Str := ["_law_into", "_law_deal", "_law_rows", "_law_make", "_law_hands", "_law_alike"]
def looseAll : List PySem.Str := loosePart0 ++ loosePart1 ++ loosePart2 ++ loosePart3

/-- the class at C has no == and no != of its own -/
def cmpB (K : PySem.W.Frag) (C : Addr) : Bool := match K.lookup C with
  | some ⟨.type t, _, .cls cd, sl⟩ => decide (t = "type") && (!cd.hasDel && ((match cd.mro with
    | [.ref a, .type o] => decide (a = C) && decide (o = "object")
    | _ => false) && ((match sl.toList with
    | [_, _, _, _, some (.builtin _), _] => true
    | _ => false) && (match K.lookup cd.ns with
    | some ⟨_, _, .dict es _, _⟩ => es.all (fun e => match e.key with | .str _ _ => true | _ => false) && ((nsFind es "__eq__").isNone && (nsFind es "__ne__").isNone)
    | _ => false))))
  | _ => false
/-- what the top has written, as the walks ask it -/
structure Txt (K : PySem.W.Frag) (mg : Str → Option Value) : Prop where
  c : He.SaysD faAll fnAll K
  o : cmpB K (He.ga K "Over") = true
  h : ∃ h : Heap, K.In h ∧ h.Ns mainGlobals mg
section
variable {K : PySem.W.Frag} {mg : Str → Option Value}
theorem Txt.glo (T : Txt K mg) (i : Nat) {x : Str} (e : faAll[i]? = some (.glo x)) : mg x = some (.ref (He.ga K x)) := by
  obtain ⟨h, X, G⟩ := T.h
  exact He.glo_ok X G (T.c.fact i e)
theorem Txt.free (T : Txt K mg) (i : Nat) {x : Str} (e : faAll[i]? = some (.free x)) : mg x = none := by
  obtain ⟨h, X, G⟩ := T.h
  exact He.free_ok X G (T.c.fact i e)
theorem Txt.int (T : Txt K mg) (i : Nat) {x : Str} {z : Int} (e : faAll[i]? = some (.int x z)) : ∃ u, mg x = some u ∧ RelV (.int z) u := by
  obtain ⟨h, X, G⟩ := T.h
  obtain ⟨t, q⟩ := He.int_ok X G (T.c.fact i e)
  exact ⟨_, q, t, rfl⟩
theorem Txt.str (T : Txt K mg) (i : Nat) {x z : Str} (e : faAll[i]? = some (.str x z)) : ∃ u, mg x = some u ∧ RelV (.str z) u := by
  obtain ⟨h, X, G⟩ := T.h
  obtain ⟨t, q⟩ := He.str_ok X G (T.c.fact i e)
  exact ⟨_, q, t, rfl⟩
theorem g_named (T : Txt K mg) : mg "named" = some (.ref (He.ga K "named")) := T.glo 0 rfl
theorem g_hand_of (T : Txt K mg) : mg "hand_of" = some (.ref (He.ga K "hand_of")) := T.glo 1 rfl
theorem g_ways_of (T : Txt K mg) : mg "ways_of" = some (.ref (He.ga K "ways_of")) := T.glo 2 rfl
theorem g_mark_row (T : Txt K mg) : mg "mark_row" = some (.ref (He.ga K "mark_row")) := T.glo 3 rfl
theorem g_kind_told (T : Txt K mg) : mg "kind_told" = some (.ref (He.ga K "kind_told")) := T.glo 4 rfl
theorem g_sort_of (T : Txt K mg) : mg "sort_of" = some (.ref (He.ga K "sort_of")) := T.glo 5 rfl
theorem g_parts_of (T : Txt K mg) : mg "parts_of" = some (.ref (He.ga K "parts_of")) := T.glo 6 rfl
theorem g_need_kind (T : Txt K mg) : mg "need_kind" = some (.ref (He.ga K "need_kind")) := T.glo 7 rfl
theorem g_need_sort (T : Txt K mg) : mg "need_sort" = some (.ref (He.ga K "need_sort")) := T.glo 8 rfl
theorem g_named_sort (T : Txt K mg) : mg "named_sort" = some (.ref (He.ga K "named_sort")) := T.glo 9 rfl
theorem g_part_kind (T : Txt K mg) : mg "part_kind" = some (.ref (He.ga K "part_kind")) := T.glo 10 rfl
theorem g_kind_of_rec (T : Txt K mg) : mg "kind_of_rec" = some (.ref (He.ga K "kind_of_rec")) := T.glo 11 rfl
theorem g_kind_of_tag (T : Txt K mg) : mg "kind_of_tag" = some (.ref (He.ga K "kind_of_tag")) := T.glo 12 rfl
theorem g_kind_of_box (T : Txt K mg) : mg "kind_of_box" = some (.ref (He.ga K "kind_of_box")) := T.glo 13 rfl
theorem g_kind_of (T : Txt K mg) : mg "kind_of" = some (.ref (He.ga K "kind_of")) := T.glo 14 rfl
theorem g_goes_to (T : Txt K mg) : mg "goes_to" = some (.ref (He.ga K "goes_to")) := T.glo 15 rfl
theorem g_boxes_over_ways (T : Txt K mg) : mg "boxes_over_ways" = some (.ref (He.ga K "boxes_over_ways")) := T.glo 16 rfl
theorem g_look_term (T : Txt K mg) : mg "look_term" = some (.ref (He.ga K "look_term")) := T.glo 17 rfl
theorem g_is_term (T : Txt K mg) : mg "is_term" = some (.ref (He.ga K "is_term")) := T.glo 18 rfl
theorem g_look_arms (T : Txt K mg) : mg "look_arms" = some (.ref (He.ga K "look_arms")) := T.glo 19 rfl
theorem g_look_way (T : Txt K mg) : mg "look_way" = some (.ref (He.ga K "look_way")) := T.glo 20 rfl
theorem g_look_ways (T : Txt K mg) : mg "look_ways" = some (.ref (He.ga K "look_ways")) := T.glo 21 rfl
theorem g_rec_rule (T : Txt K mg) : mg "rec_rule" = some (.ref (He.ga K "rec_rule")) := T.glo 22 rfl
theorem g_alt_rule (T : Txt K mg) : mg "alt_rule" = some (.ref (He.ga K "alt_rule")) := T.glo 23 rfl
theorem g_made_ways (T : Txt K mg) : mg "made_ways" = some (.ref (He.ga K "made_ways")) := T.glo 24 rfl
theorem g_boxes_over_places (T : Txt K mg) : mg "boxes_over_places" = some (.ref (He.ga K "boxes_over_places")) := T.glo 25 rfl
theorem g_sets_by_rules (T : Txt K mg) : mg "sets_by_rules" = some (.ref (He.ga K "sets_by_rules")) := T.glo 26 rfl
theorem g_marks_of (T : Txt K mg) : mg "marks_of" = some (.ref (He.ga K "marks_of")) := T.glo 27 rfl
theorem g_made_places (T : Txt K mg) : mg "made_places" = some (.ref (He.ga K "made_places")) := T.glo 28 rfl
theorem g_nought (T : Txt K mg) : mg "nought" = some (.ref (He.ga K "nought")) := T.glo 29 rfl
theorem g_field (T : Txt K mg) : mg "field" = some (.ref (He.ga K "field")) := T.glo 30 rfl
theorem g_worth_of_two (T : Txt K mg) : mg "worth_of_two" = some (.ref (He.ga K "worth_of_two")) := T.glo 31 rfl
theorem g_worth_of_case (T : Txt K mg) : mg "worth_of_case" = some (.ref (He.ga K "worth_of_case")) := T.glo 32 rfl
theorem g_worth (T : Txt K mg) : mg "worth" = some (.ref (He.ga K "worth")) := T.glo 33 rfl
theorem g_turned (T : Txt K mg) : mg "turned" = some (.ref (He.ga K "turned")) := T.glo 34 rfl
theorem g_need_fit (T : Txt K mg) : mg "need_fit" = some (.ref (He.ga K "need_fit")) := T.glo 35 rfl
theorem g_place_of (T : Txt K mg) : mg "place_of" = some (.ref (He.ga K "place_of")) := T.glo 36 rfl
theorem g_boxes_turned (T : Txt K mg) : mg "boxes_turned" = some (.ref (He.ga K "boxes_turned")) := T.glo 37 rfl
theorem g_brought (T : Txt K mg) : mg "brought" = some (.ref (He.ga K "brought")) := T.glo 38 rfl
theorem g_first_half (T : Txt K mg) : mg "first_half" = some (.ref (He.ga K "first_half")) := T.glo 39 rfl
theorem g_led_to (T : Txt K mg) : mg "led_to" = some (.ref (He.ga K "led_to")) := T.glo 40 rfl
theorem g_same (T : Txt K mg) : mg "same" = some (.ref (He.ga K "same")) := T.glo 41 rfl
theorem g_first_stand (T : Txt K mg) : mg "first_stand" = some (.ref (He.ga K "first_stand")) := T.glo 42 rfl
theorem g_law_feed (T : Txt K mg) : mg "_law_feed" = some (.ref (He.ga K "_law_feed")) := T.glo 43 rfl
theorem g_law_take (T : Txt K mg) : mg "_law_take" = some (.ref (He.ga K "_law_take")) := T.glo 44 rfl
theorem g_law_names (T : Txt K mg) : mg "_law_names" = some (.ref (He.ga K "_law_names")) := T.glo 45 rfl
theorem g_law_number (T : Txt K mg) : mg "_law_number" = some (.ref (He.ga K "_law_number")) := T.glo 46 rfl
theorem g_law_sort_of (T : Txt K mg) : mg "_law_sort_of" = some (.ref (He.ga K "_law_sort_of")) := T.glo 47 rfl
theorem g_law_size (T : Txt K mg) : mg "_law_size" = some (.ref (He.ga K "_law_size")) := T.glo 48 rfl
theorem g_law_small (T : Txt K mg) : mg "_law_small" = some (.ref (He.ga K "_law_small")) := T.glo 49 rfl
theorem g_law_parts (T : Txt K mg) : mg "_law_parts" = some (.ref (He.ga K "_law_parts")) := T.glo 50 rfl
theorem g_law_kinds (T : Txt K mg) : mg "_law_kinds" = some (.ref (He.ga K "_law_kinds")) := T.glo 51 rfl
theorem g_law_boxed (T : Txt K mg) : mg "_law_boxed" = some (.ref (He.ga K "_law_boxed")) := T.glo 52 rfl
theorem g_law_arms (T : Txt K mg) : mg "_law_arms" = some (.ref (He.ga K "_law_arms")) := T.glo 53 rfl
theorem g_law_whole_term (T : Txt K mg) : mg "_law_whole_term" = some (.ref (He.ga K "_law_whole_term")) := T.glo 54 rfl
theorem g_law_term (T : Txt K mg) : mg "_law_term" = some (.ref (He.ga K "_law_term")) := T.glo 55 rfl
theorem g_law_new_term (T : Txt K mg) : mg "_law_new_term" = some (.ref (He.ga K "_law_new_term")) := T.glo 56 rfl
theorem g_law_any_kind (T : Txt K mg) : mg "_law_any_kind" = some (.ref (He.ga K "_law_any_kind")) := T.glo 57 rfl
theorem g_law_channels (T : Txt K mg) : mg "_law_channels" = some (.ref (He.ga K "_law_channels")) := T.glo 58 rfl
theorem g_law_boxes (T : Txt K mg) : mg "_law_boxes" = some (.ref (He.ga K "_law_boxes")) := T.glo 59 rfl
theorem g_law_into (T : Txt K mg) : mg "_law_into" = some (.ref (He.ga K "_law_into")) := T.glo 60 rfl
theorem g_law_deal (T : Txt K mg) : mg "_law_deal" = some (.ref (He.ga K "_law_deal")) := T.glo 61 rfl
theorem g_law_rows (T : Txt K mg) : mg "_law_rows" = some (.ref (He.ga K "_law_rows")) := T.glo 62 rfl
theorem g_law_make (T : Txt K mg) : mg "_law_make" = some (.ref (He.ga K "_law_make")) := T.glo 63 rfl
theorem g_law_hands (T : Txt K mg) : mg "_law_hands" = some (.ref (He.ga K "_law_hands")) := T.glo 64 rfl
theorem g_law_alike (T : Txt K mg) : mg "_law_alike" = some (.ref (He.ga K "_law_alike")) := T.glo 65 rfl
theorem g_law (T : Txt K mg) : mg "law" = some (.ref (He.ga K "law")) := T.glo 66 rfl
theorem g_Over (T : Txt K mg) : mg "Over" = some (.ref (He.ga K "Over")) := T.glo 67 rfl
theorem g_Before (T : Txt K mg) : mg "Before" = some (.ref (He.ga K "Before")) := T.glo 68 rfl
theorem g_Half (T : Txt K mg) : mg "Half" = some (.ref (He.ga K "Half")) := T.glo 69 rfl
theorem g_Mixed (T : Txt K mg) : mg "Mixed" = some (.ref (He.ga K "Mixed")) := T.glo 70 rfl
theorem g_Lone (T : Txt K mg) : mg "Lone" = some (.ref (He.ga K "Lone")) := T.glo 71 rfl
theorem g_Plain (T : Txt K mg) : mg "Plain" = some (.ref (He.ga K "Plain")) := T.glo 72 rfl
theorem z_len (T : Txt K mg) : mg "len" = none := T.free 73 rfl
theorem z_range (T : Txt K mg) : mg "range" = none := T.free 74 rfl
theorem z_tuple (T : Txt K mg) : mg "tuple" = none := T.free 75 rfl
theorem z_list (T : Txt K mg) : mg "list" = none := T.free 76 rfl
theorem z_dict (T : Txt K mg) : mg "dict" = none := T.free 77 rfl
theorem z_sum (T : Txt K mg) : mg "sum" = none := T.free 78 rfl
theorem z_max (T : Txt K mg) : mg "max" = none := T.free 79 rfl
theorem z_min (T : Txt K mg) : mg "min" = none := T.free 80 rfl
theorem z_int (T : Txt K mg) : mg "int" = none := T.free 81 rfl
theorem z_isinstance (T : Txt K mg) : mg "isinstance" = none := T.free 82 rfl
theorem z_zip (T : Txt K mg) : mg "zip" = none := T.free 83 rfl
theorem z_enumerate (T : Txt K mg) : mg "enumerate" = none := T.free 84 rfl
theorem z_str (T : Txt K mg) : mg "str" = none := T.free 85 rfl
theorem z_bool (T : Txt K mg) : mg "bool" = none := T.free 86 rfl
theorem k_WIDE (T : Txt K mg) : ∃ u, mg "WIDE" = some u ∧ RelV (.int 4294967296) u := T.int 87 rfl
theorem k_ELDER (T : Txt K mg) : ∃ u, mg "ELDER" = some u ∧ RelV (.int 1) u := T.int 88 rfl
theorem k_CHANGED (T : Txt K mg) : ∃ u, mg "CHANGED" = some u ∧ RelV (.int 2) u := T.int 89 rfl
theorem k_NUM (T : Txt K mg) : ∃ u, mg "NUM" = some u ∧ RelV (.str "num") u := T.str 90 rfl
abbrev C_Over (K : PySem.W.Frag) : Addr := He.ga K "Over"
theorem cl_Over (T : Txt K mg) : Cls K (C_Over K) := He.cls_ok (T.c.fact 91 rfl)
theorem mk_Over (T : Txt K mg) : Mk K (C_Over K) (He.ma K (C_Over K) "__init__") := He.mkr_ok (T.c.fact 92 rfl)
theorem na_Over_first (T : Txt K mg) : NoAttr K (C_Over K) "first" := He.noat_ok (T.c.fact 93 rfl)
theorem na_Over_second (T : Txt K mg) : NoAttr K (C_Over K) "second" := He.noat_ok (T.c.fact 94 rfl)
theorem na_Over_ways (T : Txt K mg) : NoAttr K (C_Over K) "ways" := He.noat_ok (T.c.fact 95 rfl)
theorem na_Over_places (T : Txt K mg) : NoAttr K (C_Over K) "places" := He.noat_ok (T.c.fact 96 rfl)
theorem na_Over_lacking (T : Txt K mg) : NoAttr K (C_Over K) "lacking" := He.noat_ok (T.c.fact 97 rfl)
abbrev C_Before (K : PySem.W.Frag) : Addr := He.ga K "Before"
theorem cl_Before (T : Txt K mg) : Cls K (C_Before K) := He.cls_ok (T.c.fact 98 rfl)
theorem mk_Before (T : Txt K mg) : Mk K (C_Before K) (He.ma K (C_Before K) "__init__") := He.mkr_ok (T.c.fact 99 rfl)
theorem na_Before_line (T : Txt K mg) : NoAttr K (C_Before K) "line" := He.noat_ok (T.c.fact 100 rfl)
theorem na_Before_boxes (T : Txt K mg) : NoAttr K (C_Before K) "boxes" := He.noat_ok (T.c.fact 101 rfl)
theorem na_Before_tally (T : Txt K mg) : NoAttr K (C_Before K) "tally" := He.noat_ok (T.c.fact 102 rfl)
theorem na_Before_taken (T : Txt K mg) : NoAttr K (C_Before K) "taken" := He.noat_ok (T.c.fact 103 rfl)
abbrev C_Half (K : PySem.W.Frag) : Addr := He.ga K "Half"
theorem cl_Half (T : Txt K mg) : Cls K (C_Half K) := He.cls_ok (T.c.fact 104 rfl)
theorem mk_Half (T : Txt K mg) : Mk K (C_Half K) (He.ma K (C_Half K) "__init__") := He.mkr_ok (T.c.fact 105 rfl)
theorem na_Half_make (T : Txt K mg) : NoAttr K (C_Half K) "make" := He.noat_ok (T.c.fact 106 rfl)
theorem na_Half_line (T : Txt K mg) : NoAttr K (C_Half K) "line" := He.noat_ok (T.c.fact 107 rfl)
theorem na_Half_boxes (T : Txt K mg) : NoAttr K (C_Half K) "boxes" := He.noat_ok (T.c.fact 108 rfl)
theorem na_Half_notes (T : Txt K mg) : NoAttr K (C_Half K) "notes" := He.noat_ok (T.c.fact 109 rfl)
theorem na_Half_tally (T : Txt K mg) : NoAttr K (C_Half K) "tally" := He.noat_ok (T.c.fact 110 rfl)
theorem na_Half_before (T : Txt K mg) : NoAttr K (C_Half K) "before" := He.noat_ok (T.c.fact 111 rfl)
abbrev C_Mixed (K : PySem.W.Frag) : Addr := He.ga K "Mixed"
theorem cl_Mixed (T : Txt K mg) : Cls K (C_Mixed K) := He.cls_ok (T.c.fact 112 rfl)
theorem mk_Mixed (T : Txt K mg) : Mk K (C_Mixed K) (He.ma K (C_Mixed K) "__init__") := He.mkr_ok (T.c.fact 113 rfl)
theorem na_Mixed_over (T : Txt K mg) : NoAttr K (C_Mixed K) "over" := He.noat_ok (T.c.fact 114 rfl)
theorem na_Mixed_hands (T : Txt K mg) : NoAttr K (C_Mixed K) "hands" := He.noat_ok (T.c.fact 115 rfl)
theorem na_Mixed_rows (T : Txt K mg) : NoAttr K (C_Mixed K) "rows" := He.noat_ok (T.c.fact 116 rfl)
abbrev C_Lone (K : PySem.W.Frag) : Addr := He.ga K "Lone"
theorem cl_Lone (T : Txt K mg) : Cls K (C_Lone K) := He.cls_ok (T.c.fact 117 rfl)
theorem mk_Lone (T : Txt K mg) : Mk K (C_Lone K) (He.ma K (C_Lone K) "__init__") := He.mkr_ok (T.c.fact 118 rfl)
theorem na_Lone_kinds (T : Txt K mg) : NoAttr K (C_Lone K) "kinds" := He.noat_ok (T.c.fact 119 rfl)
theorem na_Lone_rows (T : Txt K mg) : NoAttr K (C_Lone K) "rows" := He.noat_ok (T.c.fact 120 rfl)
theorem na_Lone_leads (T : Txt K mg) : NoAttr K (C_Lone K) "leads" := He.noat_ok (T.c.fact 121 rfl)
theorem na_Lone_at (T : Txt K mg) : NoAttr K (C_Lone K) "at" := He.noat_ok (T.c.fact 122 rfl)
theorem na_Lone_held (T : Txt K mg) : NoAttr K (C_Lone K) "held" := He.noat_ok (T.c.fact 123 rfl)
theorem na_Lone_coming (T : Txt K mg) : NoAttr K (C_Lone K) "coming" := He.noat_ok (T.c.fact 124 rfl)
theorem na_Lone_gone (T : Txt K mg) : NoAttr K (C_Lone K) "gone" := He.noat_ok (T.c.fact 125 rfl)
theorem na_Lone_notes (T : Txt K mg) : NoAttr K (C_Lone K) "notes" := He.noat_ok (T.c.fact 126 rfl)
theorem na_Lone_done (T : Txt K mg) : NoAttr K (C_Lone K) "done" := He.noat_ok (T.c.fact 127 rfl)
abbrev C_Plain (K : PySem.W.Frag) : Addr := He.ga K "Plain"
theorem cl_Plain (T : Txt K mg) : Cls K (C_Plain K) := He.cls_ok (T.c.fact 128 rfl)
theorem mk_Plain (T : Txt K mg) : Mk K (C_Plain K) (He.ma K (C_Plain K) "__init__") := He.mkr_ok (T.c.fact 129 rfl)
theorem na_Plain_make (T : Txt K mg) : NoAttr K (C_Plain K) "make" := He.noat_ok (T.c.fact 130 rfl)
theorem na_Plain_hands (T : Txt K mg) : NoAttr K (C_Plain K) "hands" := He.noat_ok (T.c.fact 131 rfl)
theorem na_Plain_lines (T : Txt K mg) : NoAttr K (C_Plain K) "lines" := He.noat_ok (T.c.fact 132 rfl)
theorem me_Half_all_parts (T : Txt K mg) : Meth K (C_Half K) "all_parts" (He.ma K (C_Half K) "all_parts") := He.meth_ok (T.c.fact 133 rfl)
theorem me_Half_seen (T : Txt K mg) : Meth K (C_Half K) "seen" (He.ma K (C_Half K) "seen") := He.meth_ok (T.c.fact 134 rfl)
theorem me_Half_becomes (T : Txt K mg) : Meth K (C_Half K) "becomes" (He.ma K (C_Half K) "becomes") := He.meth_ok (T.c.fact 135 rfl)
theorem me_Mixed_make_at (T : Txt K mg) : Meth K (C_Mixed K) "make_at" (He.ma K (C_Mixed K) "make_at") := He.meth_ok (T.c.fact 136 rfl)
theorem me_Mixed_takes (T : Txt K mg) : Meth K (C_Mixed K) "takes" (He.ma K (C_Mixed K) "takes") := He.meth_ok (T.c.fact 137 rfl)
theorem me_Mixed_step (T : Txt K mg) : Meth K (C_Mixed K) "step" (He.ma K (C_Mixed K) "step") := He.meth_ok (T.c.fact 138 rfl)
theorem me_Mixed_change (T : Txt K mg) : Meth K (C_Mixed K) "change" (He.ma K (C_Mixed K) "change") := He.meth_ok (T.c.fact 139 rfl)
theorem me_Mixed_make_of (T : Txt K mg) : Meth K (C_Mixed K) "make_of" (He.ma K (C_Mixed K) "make_of") := He.meth_ok (T.c.fact 140 rfl)
theorem me_Mixed_stand (T : Txt K mg) : Meth K (C_Mixed K) "stand" (He.ma K (C_Mixed K) "stand") := He.meth_ok (T.c.fact 141 rfl)
theorem me_Mixed_told (T : Txt K mg) : Meth K (C_Mixed K) "told" (He.ma K (C_Mixed K) "told") := He.meth_ok (T.c.fact 142 rfl)
theorem me_Mixed_letters (T : Txt K mg) : Meth K (C_Mixed K) "letters" (He.ma K (C_Mixed K) "letters") := He.meth_ok (T.c.fact 143 rfl)
theorem me_Mixed_count (T : Txt K mg) : Meth K (C_Mixed K) "count" (He.ma K (C_Mixed K) "count") := He.meth_ok (T.c.fact 144 rfl)
theorem me_Lone_stand (T : Txt K mg) : Meth K (C_Lone K) "stand" (He.ma K (C_Lone K) "stand") := He.meth_ok (T.c.fact 145 rfl)
theorem me_Lone_told (T : Txt K mg) : Meth K (C_Lone K) "told" (He.ma K (C_Lone K) "told") := He.meth_ok (T.c.fact 146 rfl)
theorem me_Lone_count (T : Txt K mg) : Meth K (C_Lone K) "count" (He.ma K (C_Lone K) "count") := He.meth_ok (T.c.fact 147 rfl)
theorem me_Lone_value (T : Txt K mg) : Meth K (C_Lone K) "value" (He.ma K (C_Lone K) "value") := He.meth_ok (T.c.fact 148 rfl)
theorem me_Lone_step (T : Txt K mg) : Meth K (C_Lone K) "step" (He.ma K (C_Lone K) "step") := He.meth_ok (T.c.fact 149 rfl)
theorem me_Plain_share (T : Txt K mg) : Meth K (C_Plain K) "share" (He.ma K (C_Plain K) "share") := He.meth_ok (T.c.fact 150 rfl)
theorem me_Plain_step (T : Txt K mg) : Meth K (C_Plain K) "step" (He.ma K (C_Plain K) "step") := He.meth_ok (T.c.fact 151 rfl)
theorem me_Plain_stand (T : Txt K mg) : Meth K (C_Plain K) "stand" (He.ma K (C_Plain K) "stand") := He.meth_ok (T.c.fact 152 rfl)
theorem me_Plain_told (T : Txt K mg) : Meth K (C_Plain K) "told" (He.ma K (C_Plain K) "told") := He.meth_ok (T.c.fact 153 rfl)
theorem me_Plain_count (T : Txt K mg) : Meth K (C_Plain K) "count" (He.ma K (C_Plain K) "count") := He.meth_ok (T.c.fact 154 rfl)
theorem me_Plain_letters (T : Txt K mg) : Meth K (C_Plain K) "letters" (He.ma K (C_Plain K) "letters") := He.meth_ok (T.c.fact 155 rfl)
theorem f_named (T : Txt K mg) : ∃ fd, FunD K "named" "named" (defArgs s_named) (defBody s_named) (defScope s_named) [] [] (He.ga K "named") fd := T.c.def_ 0 rfl
theorem f_hand_of (T : Txt K mg) : ∃ fd, FunD K "hand_of" "hand_of" (defArgs s_hand_of) (defBody s_hand_of) (defScope s_hand_of) [] [] (He.ga K "hand_of") fd := T.c.def_ 1 rfl
theorem f_ways_of (T : Txt K mg) : ∃ fd, FunD K "ways_of" "ways_of" (defArgs s_ways_of) (defBody s_ways_of) (defScope s_ways_of) [] [] (He.ga K "ways_of") fd := T.c.def_ 2 rfl
theorem f_mark_row (T : Txt K mg) : ∃ fd, FunD K "mark_row" "mark_row" (defArgs s_mark_row) (defBody s_mark_row) (defScope s_mark_row) [] [] (He.ga K "mark_row") fd := T.c.def_ 3 rfl
theorem f_kind_told (T : Txt K mg) : ∃ fd, FunD K "kind_told" "kind_told" (defArgs s_kind_told) (defBody s_kind_told) (defScope s_kind_told) [] [] (He.ga K "kind_told") fd := T.c.def_ 4 rfl
theorem f_sort_of (T : Txt K mg) : ∃ fd, FunD K "sort_of" "sort_of" (defArgs s_sort_of) (defBody s_sort_of) (defScope s_sort_of) [] [] (He.ga K "sort_of") fd := T.c.def_ 5 rfl
theorem f_parts_of (T : Txt K mg) : ∃ fd, FunD K "parts_of" "parts_of" (defArgs s_parts_of) (defBody s_parts_of) (defScope s_parts_of) [] [] (He.ga K "parts_of") fd := T.c.def_ 6 rfl
theorem f_need_kind (T : Txt K mg) : ∃ fd, FunD K "need_kind" "need_kind" (defArgs s_need_kind) (defBody s_need_kind) (defScope s_need_kind) [] [] (He.ga K "need_kind") fd := T.c.def_ 7 rfl
theorem f_need_sort (T : Txt K mg) : ∃ fd, FunD K "need_sort" "need_sort" (defArgs s_need_sort) (defBody s_need_sort) (defScope s_need_sort) [] [] (He.ga K "need_sort") fd := T.c.def_ 8 rfl
theorem f_named_sort (T : Txt K mg) : ∃ fd, FunD K "named_sort" "named_sort" (defArgs s_named_sort) (defBody s_named_sort) (defScope s_named_sort) [] [] (He.ga K "named_sort") fd := T.c.def_ 9 rfl
theorem f_part_kind (T : Txt K mg) : ∃ fd, FunD K "part_kind" "part_kind" (defArgs s_part_kind) (defBody s_part_kind) (defScope s_part_kind) [] [] (He.ga K "part_kind") fd := T.c.def_ 10 rfl
theorem f_kind_of_rec (T : Txt K mg) : ∃ fd, FunD K "kind_of_rec" "kind_of_rec" (defArgs s_kind_of_rec) (defBody s_kind_of_rec) (defScope s_kind_of_rec) [] [] (He.ga K "kind_of_rec") fd := T.c.def_ 11 rfl
theorem f_kind_of_tag (T : Txt K mg) : ∃ fd, FunD K "kind_of_tag" "kind_of_tag" (defArgs s_kind_of_tag) (defBody s_kind_of_tag) (defScope s_kind_of_tag) [] [] (He.ga K "kind_of_tag") fd := T.c.def_ 12 rfl
theorem f_kind_of_box (T : Txt K mg) : ∃ fd, FunD K "kind_of_box" "kind_of_box" (defArgs s_kind_of_box) (defBody s_kind_of_box) (defScope s_kind_of_box) [] [] (He.ga K "kind_of_box") fd := T.c.def_ 13 rfl
theorem f_kind_of (T : Txt K mg) : ∃ fd, FunD K "kind_of" "kind_of" (defArgs s_kind_of) (defBody s_kind_of) (defScope s_kind_of) [] [] (He.ga K "kind_of") fd := T.c.def_ 14 rfl
theorem f_goes_to (T : Txt K mg) : ∃ fd, FunD K "goes_to" "goes_to" (defArgs s_goes_to) (defBody s_goes_to) (defScope s_goes_to) [] [] (He.ga K "goes_to") fd := T.c.def_ 15 rfl
theorem f_boxes_over_ways (T : Txt K mg) : ∃ fd, FunD K "boxes_over" "boxes_over" (defArgs s_boxes_over_ways) (defBody s_boxes_over_ways) (defScope s_boxes_over_ways) [] [] (He.ga K "boxes_over_ways") fd := T.c.def_ 16 rfl
theorem f_look_term (T : Txt K mg) : ∃ fd, FunD K "look_term" "look_term" (defArgs s_look_term) (defBody s_look_term) (defScope s_look_term) [] [] (He.ga K "look_term") fd := T.c.def_ 17 rfl
theorem f_is_term (T : Txt K mg) : ∃ fd, FunD K "is_term" "is_term" (defArgs s_is_term) (defBody s_is_term) (defScope s_is_term) [] [] (He.ga K "is_term") fd := T.c.def_ 18 rfl
theorem f_look_arms (T : Txt K mg) : ∃ fd, FunD K "look_arms" "look_arms" (defArgs s_look_arms) (defBody s_look_arms) (defScope s_look_arms) [] [] (He.ga K "look_arms") fd := T.c.def_ 19 rfl
theorem f_look_way (T : Txt K mg) : ∃ fd, FunD K "look_way" "look_way" (defArgs s_look_way) (defBody s_look_way) (defScope s_look_way) [] [] (He.ga K "look_way") fd := T.c.def_ 20 rfl
theorem f_look_ways (T : Txt K mg) : ∃ fd, FunD K "look_ways" "look_ways" (defArgs s_look_ways) (defBody s_look_ways) (defScope s_look_ways) [] [] (He.ga K "look_ways") fd := T.c.def_ 21 rfl
theorem f_rec_rule (T : Txt K mg) : ∃ fd, FunD K "rec_rule" "rec_rule" (defArgs s_rec_rule) (defBody s_rec_rule) (defScope s_rec_rule) [] [] (He.ga K "rec_rule") fd := T.c.def_ 22 rfl
theorem f_alt_rule (T : Txt K mg) : ∃ fd, FunD K "alt_rule" "alt_rule" (defArgs s_alt_rule) (defBody s_alt_rule) (defScope s_alt_rule) [] [] (He.ga K "alt_rule") fd := T.c.def_ 23 rfl
theorem f_made_ways (T : Txt K mg) : ∃ fd, FunD K "made_ways" "made_ways" (defArgs s_made_ways) (defBody s_made_ways) (defScope s_made_ways) [] [] (He.ga K "made_ways") fd := T.c.def_ 24 rfl
theorem f_boxes_over_places (T : Txt K mg) : ∃ fd, FunD K "boxes_over" "boxes_over" (defArgs s_boxes_over_places) (defBody s_boxes_over_places) (defScope s_boxes_over_places) [] [] (He.ga K "boxes_over_places") fd := T.c.def_ 25 rfl
theorem f_sets_by_rules (T : Txt K mg) : ∃ fd, FunD K "sets_by_rules" "sets_by_rules" (defArgs s_sets_by_rules) (defBody s_sets_by_rules) (defScope s_sets_by_rules) [] [] (He.ga K "sets_by_rules") fd := T.c.def_ 26 rfl
theorem f_marks_of (T : Txt K mg) : ∃ fd, FunD K "marks_of" "marks_of" (defArgs s_marks_of) (defBody s_marks_of) (defScope s_marks_of) [] [] (He.ga K "marks_of") fd := T.c.def_ 27 rfl
theorem f_made_places (T : Txt K mg) : ∃ fd, FunD K "made_places" "made_places" (defArgs s_made_places) (defBody s_made_places) (defScope s_made_places) [] [] (He.ga K "made_places") fd := T.c.def_ 28 rfl
theorem f_nought (T : Txt K mg) : ∃ fd, FunD K "nought" "nought" (defArgs s_nought) (defBody s_nought) (defScope s_nought) [] [] (He.ga K "nought") fd := T.c.def_ 29 rfl
theorem f_field (T : Txt K mg) : ∃ fd, FunD K "field" "field" (defArgs s_field) (defBody s_field) (defScope s_field) [] [] (He.ga K "field") fd := T.c.def_ 30 rfl
theorem f_worth_of_two (T : Txt K mg) : ∃ fd, FunD K "worth_of_two" "worth_of_two" (defArgs s_worth_of_two) (defBody s_worth_of_two) (defScope s_worth_of_two) [] [] (He.ga K "worth_of_two") fd := T.c.def_ 31 rfl
theorem f_worth_of_case (T : Txt K mg) : ∃ fd, FunD K "worth_of_case" "worth_of_case" (defArgs s_worth_of_case) (defBody s_worth_of_case) (defScope s_worth_of_case) [] [] (He.ga K "worth_of_case") fd := T.c.def_ 32 rfl
theorem f_worth (T : Txt K mg) : ∃ fd, FunD K "worth" "worth" (defArgs s_worth) (defBody s_worth) (defScope s_worth) [] [] (He.ga K "worth") fd := T.c.def_ 33 rfl
theorem f_turned (T : Txt K mg) : ∃ fd, FunD K "turned" "turned" (defArgs s_turned) (defBody s_turned) (defScope s_turned) [] [] (He.ga K "turned") fd := T.c.def_ 34 rfl
theorem f_need_fit (T : Txt K mg) : ∃ fd, FunD K "need_fit" "need_fit" (defArgs s_need_fit) (defBody s_need_fit) (defScope s_need_fit) [] [] (He.ga K "need_fit") fd := T.c.def_ 35 rfl
theorem f_Over_init (T : Txt K mg) : ∃ fd, FunD K "__init__" "Over.__init__" (defArgs s_Over_init) (defBody s_Over_init) (defScope s_Over_init) [] [] (He.ma K (C_Over K) "__init__") fd := T.c.def_ 36 rfl
theorem f_place_of (T : Txt K mg) : ∃ fd, FunD K "place_of" "place_of" (defArgs s_place_of) (defBody s_place_of) (defScope s_place_of) [] [] (He.ga K "place_of") fd := T.c.def_ 37 rfl
theorem f_boxes_turned (T : Txt K mg) : ∃ fd, FunD K "boxes_turned" "boxes_turned" (defArgs s_boxes_turned) (defBody s_boxes_turned) (defScope s_boxes_turned) [] [] (He.ga K "boxes_turned") fd := T.c.def_ 38 rfl
theorem f_brought (T : Txt K mg) : ∃ fd, FunD K "brought" "brought" (defArgs s_brought) (defBody s_brought) (defScope s_brought) [] [] (He.ga K "brought") fd := T.c.def_ 39 rfl
theorem f_Before_init (T : Txt K mg) : ∃ fd, FunD K "__init__" "Before.__init__" (defArgs s_Before_init) (defBody s_Before_init) (defScope s_Before_init) [] [] (He.ma K (C_Before K) "__init__") fd := T.c.def_ 40 rfl
theorem f_Half_init (T : Txt K mg) : ∃ fd, FunD K "__init__" "Half.__init__" (defArgs s_Half_init) (defBody s_Half_init) (defScope s_Half_init) [] [] (He.ma K (C_Half K) "__init__") fd := T.c.def_ 41 rfl
theorem f_Half_all_parts (T : Txt K mg) : ∃ fd, FunD K "all_parts" "Half.all_parts" (defArgs s_Half_all_parts) (defBody s_Half_all_parts) (defScope s_Half_all_parts) [] [] (He.ma K (C_Half K) "all_parts") fd := T.c.def_ 42 rfl
theorem f_Half_seen (T : Txt K mg) : ∃ fd, FunD K "seen" "Half.seen" (defArgs s_Half_seen) (defBody s_Half_seen) (defScope s_Half_seen) [] [] (He.ma K (C_Half K) "seen") fd := T.c.def_ 43 rfl
theorem f_Half_becomes (T : Txt K mg) : ∃ fd, FunD K "becomes" "Half.becomes" (defArgs s_Half_becomes) (defBody s_Half_becomes) (defScope s_Half_becomes) [] [] (He.ma K (C_Half K) "becomes") fd := T.c.def_ 44 rfl
theorem f_first_half (T : Txt K mg) : ∃ fd, FunD K "first_half" "first_half" (defArgs s_first_half) (defBody s_first_half) (defScope s_first_half) [] [] (He.ga K "first_half") fd := T.c.def_ 45 rfl
theorem f_led_to (T : Txt K mg) : ∃ fd, FunD K "led_to" "led_to" (defArgs s_led_to) (defBody s_led_to) (defScope s_led_to) [] [] (He.ga K "led_to") fd := T.c.def_ 46 rfl
theorem f_Mixed_init (T : Txt K mg) : ∃ fd, FunD K "__init__" "Mixed.__init__" (defArgs s_Mixed_init) (defBody s_Mixed_init) (defScope s_Mixed_init) [] [] (He.ma K (C_Mixed K) "__init__") fd := T.c.def_ 47 rfl
theorem f_Mixed_make_at (T : Txt K mg) : ∃ fd, FunD K "make_at" "Mixed.make_at" (defArgs s_Mixed_make_at) (defBody s_Mixed_make_at) (defScope s_Mixed_make_at) [] [] (He.ma K (C_Mixed K) "make_at") fd := T.c.def_ 48 rfl
theorem f_Mixed_takes (T : Txt K mg) : ∃ fd, FunD K "takes" "Mixed.takes" (defArgs s_Mixed_takes) (defBody s_Mixed_takes) (defScope s_Mixed_takes) [] [] (He.ma K (C_Mixed K) "takes") fd := T.c.def_ 49 rfl
theorem f_Mixed_step (T : Txt K mg) : ∃ fd, FunD K "step" "Mixed.step" (defArgs s_Mixed_step) (defBody s_Mixed_step) (defScope s_Mixed_step) [] [] (He.ma K (C_Mixed K) "step") fd := T.c.def_ 50 rfl
theorem f_Mixed_change (T : Txt K mg) : ∃ fd, FunD K "change" "Mixed.change" (defArgs s_Mixed_change) (defBody s_Mixed_change) (defScope s_Mixed_change) [] [] (He.ma K (C_Mixed K) "change") fd := T.c.def_ 51 rfl
theorem f_Mixed_make_of (T : Txt K mg) : ∃ fd, FunD K "make_of" "Mixed.make_of" (defArgs s_Mixed_make_of) (defBody s_Mixed_make_of) (defScope s_Mixed_make_of) [] [] (He.ma K (C_Mixed K) "make_of") fd := T.c.def_ 52 rfl
theorem f_Mixed_stand (T : Txt K mg) : ∃ fd, FunD K "stand" "Mixed.stand" (defArgs s_Mixed_stand) (defBody s_Mixed_stand) (defScope s_Mixed_stand) [] [] (He.ma K (C_Mixed K) "stand") fd := T.c.def_ 53 rfl
theorem f_Mixed_told (T : Txt K mg) : ∃ fd, FunD K "told" "Mixed.told" (defArgs s_Mixed_told) (defBody s_Mixed_told) (defScope s_Mixed_told) [] [] (He.ma K (C_Mixed K) "told") fd := T.c.def_ 54 rfl
theorem f_Mixed_letters (T : Txt K mg) : ∃ fd, FunD K "letters" "Mixed.letters" (defArgs s_Mixed_letters) (defBody s_Mixed_letters) (defScope s_Mixed_letters) [] [] (He.ma K (C_Mixed K) "letters") fd := T.c.def_ 55 rfl
theorem f_Mixed_count (T : Txt K mg) : ∃ fd, FunD K "count" "Mixed.count" (defArgs s_Mixed_count) (defBody s_Mixed_count) (defScope s_Mixed_count) [] [] (He.ma K (C_Mixed K) "count") fd := T.c.def_ 56 rfl
theorem f_same (T : Txt K mg) : ∃ fd, FunD K "same" "same" (defArgs s_same) (defBody s_same) (defScope s_same) [] [] (He.ga K "same") fd := T.c.def_ 57 rfl
theorem f_first_stand (T : Txt K mg) : ∃ fd, FunD K "first_stand" "first_stand" (defArgs s_first_stand) (defBody s_first_stand) (defScope s_first_stand) [] [] (He.ga K "first_stand") fd := T.c.def_ 58 rfl
theorem f_Lone_init (T : Txt K mg) : ∃ fd, FunD K "__init__" "Lone.__init__" (defArgs s_Lone_init) (defBody s_Lone_init) (defScope s_Lone_init) [.non] [] (He.ma K (C_Lone K) "__init__") fd := T.c.def_ 59 rfl
theorem f_Lone_stand (T : Txt K mg) : ∃ fd, FunD K "stand" "Lone.stand" (defArgs s_Lone_stand) (defBody s_Lone_stand) (defScope s_Lone_stand) [] [] (He.ma K (C_Lone K) "stand") fd := T.c.def_ 60 rfl
theorem f_Lone_told (T : Txt K mg) : ∃ fd, FunD K "told" "Lone.told" (defArgs s_Lone_told) (defBody s_Lone_told) (defScope s_Lone_told) [] [] (He.ma K (C_Lone K) "told") fd := T.c.def_ 61 rfl
theorem f_Lone_count (T : Txt K mg) : ∃ fd, FunD K "count" "Lone.count" (defArgs s_Lone_count) (defBody s_Lone_count) (defScope s_Lone_count) [] [] (He.ma K (C_Lone K) "count") fd := T.c.def_ 62 rfl
theorem f_Lone_value (T : Txt K mg) : ∃ fd, FunD K "value" "Lone.value" (defArgs s_Lone_value) (defBody s_Lone_value) (defScope s_Lone_value) [] [] (He.ma K (C_Lone K) "value") fd := T.c.def_ 63 rfl
theorem f_Lone_step (T : Txt K mg) : ∃ fd, FunD K "step" "Lone.step" (defArgs s_Lone_step) (defBody s_Lone_step) (defScope s_Lone_step) [] [] (He.ma K (C_Lone K) "step") fd := T.c.def_ 64 rfl
theorem f_Plain_init (T : Txt K mg) : ∃ fd, FunD K "__init__" "Plain.__init__" (defArgs s_Plain_init) (defBody s_Plain_init) (defScope s_Plain_init) [] [] (He.ma K (C_Plain K) "__init__") fd := T.c.def_ 65 rfl
theorem f_Plain_share (T : Txt K mg) : ∃ fd, FunD K "share" "Plain.share" (defArgs s_Plain_share) (defBody s_Plain_share) (defScope s_Plain_share) [] [] (He.ma K (C_Plain K) "share") fd := T.c.def_ 66 rfl
theorem f_Plain_step (T : Txt K mg) : ∃ fd, FunD K "step" "Plain.step" (defArgs s_Plain_step) (defBody s_Plain_step) (defScope s_Plain_step) [] [] (He.ma K (C_Plain K) "step") fd := T.c.def_ 67 rfl
theorem f_Plain_stand (T : Txt K mg) : ∃ fd, FunD K "stand" "Plain.stand" (defArgs s_Plain_stand) (defBody s_Plain_stand) (defScope s_Plain_stand) [] [] (He.ma K (C_Plain K) "stand") fd := T.c.def_ 68 rfl
theorem f_Plain_told (T : Txt K mg) : ∃ fd, FunD K "told" "Plain.told" (defArgs s_Plain_told) (defBody s_Plain_told) (defScope s_Plain_told) [] [] (He.ma K (C_Plain K) "told") fd := T.c.def_ 69 rfl
theorem f_Plain_count (T : Txt K mg) : ∃ fd, FunD K "count" "Plain.count" (defArgs s_Plain_count) (defBody s_Plain_count) (defScope s_Plain_count) [] [] (He.ma K (C_Plain K) "count") fd := T.c.def_ 70 rfl
theorem f_Plain_letters (T : Txt K mg) : ∃ fd, FunD K "letters" "Plain.letters" (defArgs s_Plain_letters) (defBody s_Plain_letters) (defScope s_Plain_letters) [] [] (He.ma K (C_Plain K) "letters") fd := T.c.def_ 71 rfl
theorem f_law_feed (T : Txt K mg) : ∃ fd, FunD K "_law_feed" "_law_feed" (defArgs s_law_feed) (defBody s_law_feed) (defScope s_law_feed) [] [] (He.ga K "_law_feed") fd := T.c.def_ 72 rfl
theorem f_law_take (T : Txt K mg) : ∃ fd, FunD K "_law_take" "_law_take" (defArgs s_law_take) (defBody s_law_take) (defScope s_law_take) [] [] (He.ga K "_law_take") fd := T.c.def_ 73 rfl
theorem f_law_names (T : Txt K mg) : ∃ fd, FunD K "_law_names" "_law_names" (defArgs s_law_names) (defBody s_law_names) (defScope s_law_names) [] [] (He.ga K "_law_names") fd := T.c.def_ 74 rfl
theorem f_law_number (T : Txt K mg) : ∃ fd, FunD K "_law_number" "_law_number" (defArgs s_law_number) (defBody s_law_number) (defScope s_law_number) [] [] (He.ga K "_law_number") fd := T.c.def_ 75 rfl
theorem f_law_sort_of (T : Txt K mg) : ∃ fd, FunD K "_law_sort_of" "_law_sort_of" (defArgs s_law_sort_of) (defBody s_law_sort_of) (defScope s_law_sort_of) [] [] (He.ga K "_law_sort_of") fd := T.c.def_ 76 rfl
theorem f_law_size (T : Txt K mg) : ∃ fd, FunD K "_law_size" "_law_size" (defArgs s_law_size) (defBody s_law_size) (defScope s_law_size) [] [] (He.ga K "_law_size") fd := T.c.def_ 77 rfl
theorem f_law_small (T : Txt K mg) : ∃ fd, FunD K "_law_small" "_law_small" (defArgs s_law_small) (defBody s_law_small) (defScope s_law_small) [] [] (He.ga K "_law_small") fd := T.c.def_ 78 rfl
theorem f_law_parts (T : Txt K mg) : ∃ fd, FunD K "_law_parts" "_law_parts" (defArgs s_law_parts) (defBody s_law_parts) (defScope s_law_parts) [] [] (He.ga K "_law_parts") fd := T.c.def_ 79 rfl
theorem f_law_kinds (T : Txt K mg) : ∃ fd, FunD K "_law_kinds" "_law_kinds" (defArgs s_law_kinds) (defBody s_law_kinds) (defScope s_law_kinds) [] [] (He.ga K "_law_kinds") fd := T.c.def_ 80 rfl
theorem f_law_boxed (T : Txt K mg) : ∃ fd, FunD K "_law_boxed" "_law_boxed" (defArgs s_law_boxed) (defBody s_law_boxed) (defScope s_law_boxed) [] [] (He.ga K "_law_boxed") fd := T.c.def_ 81 rfl
theorem f_law_arms (T : Txt K mg) : ∃ fd, FunD K "_law_arms" "_law_arms" (defArgs s_law_arms) (defBody s_law_arms) (defScope s_law_arms) [] [] (He.ga K "_law_arms") fd := T.c.def_ 82 rfl
theorem f_law_whole_term (T : Txt K mg) : ∃ fd, FunD K "_law_whole_term" "_law_whole_term" (defArgs s_law_whole_term) (defBody s_law_whole_term) (defScope s_law_whole_term) [] [] (He.ga K "_law_whole_term") fd := T.c.def_ 83 rfl
theorem f_law_term (T : Txt K mg) : ∃ fd, FunD K "_law_term" "_law_term" (defArgs s_law_term) (defBody s_law_term) (defScope s_law_term) [] [] (He.ga K "_law_term") fd := T.c.def_ 84 rfl
theorem f_law_new_term (T : Txt K mg) : ∃ fd, FunD K "_law_new_term" "_law_new_term" (defArgs s_law_new_term) (defBody s_law_new_term) (defScope s_law_new_term) [] [] (He.ga K "_law_new_term") fd := T.c.def_ 85 rfl
theorem f_law_any_kind (T : Txt K mg) : ∃ fd, FunD K "_law_any_kind" "_law_any_kind" (defArgs s_law_any_kind) (defBody s_law_any_kind) (defScope s_law_any_kind) [] [] (He.ga K "_law_any_kind") fd := T.c.def_ 86 rfl
theorem f_law_channels (T : Txt K mg) : ∃ fd, FunD K "_law_channels" "_law_channels" (defArgs s_law_channels) (defBody s_law_channels) (defScope s_law_channels) [] [] (He.ga K "_law_channels") fd := T.c.def_ 87 rfl
theorem f_law_boxes (T : Txt K mg) : ∃ fd, FunD K "_law_boxes" "_law_boxes" (defArgs s_law_boxes) (defBody s_law_boxes) (defScope s_law_boxes) [] [] (He.ga K "_law_boxes") fd := T.c.def_ 88 rfl
theorem f_law_into (T : Txt K mg) : ∃ fd, FunD K "_law_into" "_law_into" (defArgs s_law_into) (defBody s_law_into) (defScope s_law_into) [] [] (He.ga K "_law_into") fd := T.c.def_ 89 rfl
theorem f_law_deal (T : Txt K mg) : ∃ fd, FunD K "_law_deal" "_law_deal" (defArgs s_law_deal) (defBody s_law_deal) (defScope s_law_deal) [] [] (He.ga K "_law_deal") fd := T.c.def_ 90 rfl
theorem f_law_rows (T : Txt K mg) : ∃ fd, FunD K "_law_rows" "_law_rows" (defArgs s_law_rows) (defBody s_law_rows) (defScope s_law_rows) [] [] (He.ga K "_law_rows") fd := T.c.def_ 91 rfl
theorem f_law_make (T : Txt K mg) : ∃ fd, FunD K "_law_make" "_law_make" (defArgs s_law_make) (defBody s_law_make) (defScope s_law_make) [] [] (He.ga K "_law_make") fd := T.c.def_ 92 rfl
theorem f_law_hands (T : Txt K mg) : ∃ fd, FunD K "_law_hands" "_law_hands" (defArgs s_law_hands) (defBody s_law_hands) (defScope s_law_hands) [] [] (He.ga K "_law_hands") fd := T.c.def_ 93 rfl
theorem f_law_alike (T : Txt K mg) : ∃ fd, FunD K "_law_alike" "_law_alike" (defArgs s_law_alike) (defBody s_law_alike) (defScope s_law_alike) [] [] (He.ga K "_law_alike") fd := T.c.def_ 94 rfl
theorem f_law (T : Txt K mg) : ∃ fd, FunD K "law" "law" (defArgs s_law) (defBody s_law) (defScope s_law) [] [] (He.ga K "law") fd := T.c.def_ 95 rfl
end
/-! ### the attributes of each class, in the order of its __init__ -/
def A_Over (v0 v1 v2 v3 v4 : V) : List (Str × V) := [("first", v0), ("second", v1), ("ways", v2), ("places", v3), ("lacking", v4)]
theorem l_Over_first {v0 v1 v2 v3 v4 : V} : (A_Over v0 v1 v2 v3 v4).lookup ("first" : Str) = some v0 := by kernel_rfl
theorem p_Over_first {v0 v1 v2 v3 v4 y : V} : putF "first" y (A_Over v0 v1 v2 v3 v4) = A_Over y v1 v2 v3 v4 := by kernel_rfl
theorem l_Over_second {v0 v1 v2 v3 v4 : V} : (A_Over v0 v1 v2 v3 v4).lookup ("second" : Str) = some v1 := by kernel_rfl
theorem p_Over_second {v0 v1 v2 v3 v4 y : V} : putF "second" y (A_Over v0 v1 v2 v3 v4) = A_Over v0 y v2 v3 v4 := by kernel_rfl
theorem l_Over_ways {v0 v1 v2 v3 v4 : V} : (A_Over v0 v1 v2 v3 v4).lookup ("ways" : Str) = some v2 := by kernel_rfl
theorem p_Over_ways {v0 v1 v2 v3 v4 y : V} : putF "ways" y (A_Over v0 v1 v2 v3 v4) = A_Over v0 v1 y v3 v4 := by kernel_rfl
theorem l_Over_places {v0 v1 v2 v3 v4 : V} : (A_Over v0 v1 v2 v3 v4).lookup ("places" : Str) = some v3 := by kernel_rfl
theorem p_Over_places {v0 v1 v2 v3 v4 y : V} : putF "places" y (A_Over v0 v1 v2 v3 v4) = A_Over v0 v1 v2 y v4 := by kernel_rfl
theorem l_Over_lacking {v0 v1 v2 v3 v4 : V} : (A_Over v0 v1 v2 v3 v4).lookup ("lacking" : Str) = some v4 := by kernel_rfl
theorem p_Over_lacking {v0 v1 v2 v3 v4 y : V} : putF "lacking" y (A_Over v0 v1 v2 v3 v4) = A_Over v0 v1 v2 v3 y := by kernel_rfl
theorem i_Over {v0 v1 v2 v3 v4 : V} : (putF "lacking" v4 (putF "places" v3 (putF "ways" v2 (putF "second" v1 (putF "first" v0 []))))) = A_Over v0 v1 v2 v3 v4 := by kernel_rfl
theorem len_Over {v0 v1 v2 v3 v4 : V} : (A_Over v0 v1 v2 v3 v4).length < 1000 := lt1000 (by kernel_rfl)
def A_Before (v0 v1 v2 v3 : V) : List (Str × V) := [("line", v0), ("boxes", v1), ("tally", v2), ("taken", v3)]
theorem l_Before_line {v0 v1 v2 v3 : V} : (A_Before v0 v1 v2 v3).lookup ("line" : Str) = some v0 := by kernel_rfl
theorem p_Before_line {v0 v1 v2 v3 y : V} : putF "line" y (A_Before v0 v1 v2 v3) = A_Before y v1 v2 v3 := by kernel_rfl
theorem l_Before_boxes {v0 v1 v2 v3 : V} : (A_Before v0 v1 v2 v3).lookup ("boxes" : Str) = some v1 := by kernel_rfl
theorem p_Before_boxes {v0 v1 v2 v3 y : V} : putF "boxes" y (A_Before v0 v1 v2 v3) = A_Before v0 y v2 v3 := by kernel_rfl
theorem l_Before_tally {v0 v1 v2 v3 : V} : (A_Before v0 v1 v2 v3).lookup ("tally" : Str) = some v2 := by kernel_rfl
theorem p_Before_tally {v0 v1 v2 v3 y : V} : putF "tally" y (A_Before v0 v1 v2 v3) = A_Before v0 v1 y v3 := by kernel_rfl
theorem l_Before_taken {v0 v1 v2 v3 : V} : (A_Before v0 v1 v2 v3).lookup ("taken" : Str) = some v3 := by kernel_rfl
theorem p_Before_taken {v0 v1 v2 v3 y : V} : putF "taken" y (A_Before v0 v1 v2 v3) = A_Before v0 v1 v2 y := by kernel_rfl
theorem i_Before {v0 v1 v2 v3 : V} : (putF "taken" v3 (putF "tally" v2 (putF "boxes" v1 (putF "line" v0 [])))) = A_Before v0 v1 v2 v3 := by kernel_rfl
theorem len_Before {v0 v1 v2 v3 : V} : (A_Before v0 v1 v2 v3).length < 1000 := lt1000 (by kernel_rfl)
def A_Half (v0 v1 v2 v3 v4 v5 : V) : List (Str × V) := [("make", v0), ("line", v1), ("boxes", v2), ("notes", v3), ("tally", v4), ("before", v5)]
theorem l_Half_make {v0 v1 v2 v3 v4 v5 : V} : (A_Half v0 v1 v2 v3 v4 v5).lookup ("make" : Str) = some v0 := by kernel_rfl
theorem p_Half_make {v0 v1 v2 v3 v4 v5 y : V} : putF "make" y (A_Half v0 v1 v2 v3 v4 v5) = A_Half y v1 v2 v3 v4 v5 := by kernel_rfl
theorem l_Half_line {v0 v1 v2 v3 v4 v5 : V} : (A_Half v0 v1 v2 v3 v4 v5).lookup ("line" : Str) = some v1 := by kernel_rfl
theorem p_Half_line {v0 v1 v2 v3 v4 v5 y : V} : putF "line" y (A_Half v0 v1 v2 v3 v4 v5) = A_Half v0 y v2 v3 v4 v5 := by kernel_rfl
theorem l_Half_boxes {v0 v1 v2 v3 v4 v5 : V} : (A_Half v0 v1 v2 v3 v4 v5).lookup ("boxes" : Str) = some v2 := by kernel_rfl
theorem p_Half_boxes {v0 v1 v2 v3 v4 v5 y : V} : putF "boxes" y (A_Half v0 v1 v2 v3 v4 v5) = A_Half v0 v1 y v3 v4 v5 := by kernel_rfl
theorem l_Half_notes {v0 v1 v2 v3 v4 v5 : V} : (A_Half v0 v1 v2 v3 v4 v5).lookup ("notes" : Str) = some v3 := by kernel_rfl
theorem p_Half_notes {v0 v1 v2 v3 v4 v5 y : V} : putF "notes" y (A_Half v0 v1 v2 v3 v4 v5) = A_Half v0 v1 v2 y v4 v5 := by kernel_rfl
theorem l_Half_tally {v0 v1 v2 v3 v4 v5 : V} : (A_Half v0 v1 v2 v3 v4 v5).lookup ("tally" : Str) = some v4 := by kernel_rfl
theorem p_Half_tally {v0 v1 v2 v3 v4 v5 y : V} : putF "tally" y (A_Half v0 v1 v2 v3 v4 v5) = A_Half v0 v1 v2 v3 y v5 := by kernel_rfl
theorem l_Half_before {v0 v1 v2 v3 v4 v5 : V} : (A_Half v0 v1 v2 v3 v4 v5).lookup ("before" : Str) = some v5 := by kernel_rfl
theorem p_Half_before {v0 v1 v2 v3 v4 v5 y : V} : putF "before" y (A_Half v0 v1 v2 v3 v4 v5) = A_Half v0 v1 v2 v3 v4 y := by kernel_rfl
theorem n_Half_all_parts {v0 v1 v2 v3 v4 v5 : V} : (A_Half v0 v1 v2 v3 v4 v5).lookup ("all_parts" : Str) = none := by kernel_rfl
theorem n_Half_seen {v0 v1 v2 v3 v4 v5 : V} : (A_Half v0 v1 v2 v3 v4 v5).lookup ("seen" : Str) = none := by kernel_rfl
theorem n_Half_becomes {v0 v1 v2 v3 v4 v5 : V} : (A_Half v0 v1 v2 v3 v4 v5).lookup ("becomes" : Str) = none := by kernel_rfl
theorem i_Half {v0 v1 v2 v3 v4 v5 : V} : (putF "before" v5 (putF "tally" v4 (putF "notes" v3 (putF "boxes" v2 (putF "line" v1 (putF "make" v0 [])))))) = A_Half v0 v1 v2 v3 v4 v5 := by kernel_rfl
theorem len_Half {v0 v1 v2 v3 v4 v5 : V} : (A_Half v0 v1 v2 v3 v4 v5).length < 1000 := lt1000 (by kernel_rfl)
def A_Mixed (v0 v1 v2 : V) : List (Str × V) := [("over", v0), ("hands", v1), ("rows", v2)]
theorem l_Mixed_over {v0 v1 v2 : V} : (A_Mixed v0 v1 v2).lookup ("over" : Str) = some v0 := by kernel_rfl
theorem p_Mixed_over {v0 v1 v2 y : V} : putF "over" y (A_Mixed v0 v1 v2) = A_Mixed y v1 v2 := by kernel_rfl
theorem l_Mixed_hands {v0 v1 v2 : V} : (A_Mixed v0 v1 v2).lookup ("hands" : Str) = some v1 := by kernel_rfl
theorem p_Mixed_hands {v0 v1 v2 y : V} : putF "hands" y (A_Mixed v0 v1 v2) = A_Mixed v0 y v2 := by kernel_rfl
theorem l_Mixed_rows {v0 v1 v2 : V} : (A_Mixed v0 v1 v2).lookup ("rows" : Str) = some v2 := by kernel_rfl
theorem p_Mixed_rows {v0 v1 v2 y : V} : putF "rows" y (A_Mixed v0 v1 v2) = A_Mixed v0 v1 y := by kernel_rfl
theorem n_Mixed_make_at {v0 v1 v2 : V} : (A_Mixed v0 v1 v2).lookup ("make_at" : Str) = none := by kernel_rfl
theorem n_Mixed_takes {v0 v1 v2 : V} : (A_Mixed v0 v1 v2).lookup ("takes" : Str) = none := by kernel_rfl
theorem n_Mixed_step {v0 v1 v2 : V} : (A_Mixed v0 v1 v2).lookup ("step" : Str) = none := by kernel_rfl
theorem n_Mixed_change {v0 v1 v2 : V} : (A_Mixed v0 v1 v2).lookup ("change" : Str) = none := by kernel_rfl
theorem n_Mixed_make_of {v0 v1 v2 : V} : (A_Mixed v0 v1 v2).lookup ("make_of" : Str) = none := by kernel_rfl
theorem n_Mixed_stand {v0 v1 v2 : V} : (A_Mixed v0 v1 v2).lookup ("stand" : Str) = none := by kernel_rfl
theorem n_Mixed_told {v0 v1 v2 : V} : (A_Mixed v0 v1 v2).lookup ("told" : Str) = none := by kernel_rfl
theorem n_Mixed_letters {v0 v1 v2 : V} : (A_Mixed v0 v1 v2).lookup ("letters" : Str) = none := by kernel_rfl
theorem n_Mixed_count {v0 v1 v2 : V} : (A_Mixed v0 v1 v2).lookup ("count" : Str) = none := by kernel_rfl
theorem i_Mixed {v0 v1 v2 : V} : (putF "rows" v2 (putF "hands" v1 (putF "over" v0 []))) = A_Mixed v0 v1 v2 := by kernel_rfl
theorem len_Mixed {v0 v1 v2 : V} : (A_Mixed v0 v1 v2).length < 1000 := lt1000 (by kernel_rfl)
def A_Lone (v0 v1 v2 v3 v4 v5 v6 v7 v8 : V) : List (Str × V) := [("kinds", v0), ("rows", v1), ("leads", v2), ("at", v3), ("held", v4), ("coming", v5), ("gone", v6), ("notes", v7), ("done", v8)]
theorem l_Lone_kinds {v0 v1 v2 v3 v4 v5 v6 v7 v8 : V} : (A_Lone v0 v1 v2 v3 v4 v5 v6 v7 v8).lookup ("kinds" : Str) = some v0 := by kernel_rfl
theorem p_Lone_kinds {v0 v1 v2 v3 v4 v5 v6 v7 v8 y : V} : putF "kinds" y (A_Lone v0 v1 v2 v3 v4 v5 v6 v7 v8) = A_Lone y v1 v2 v3 v4 v5 v6 v7 v8 := by kernel_rfl
theorem l_Lone_rows {v0 v1 v2 v3 v4 v5 v6 v7 v8 : V} : (A_Lone v0 v1 v2 v3 v4 v5 v6 v7 v8).lookup ("rows" : Str) = some v1 := by kernel_rfl
theorem p_Lone_rows {v0 v1 v2 v3 v4 v5 v6 v7 v8 y : V} : putF "rows" y (A_Lone v0 v1 v2 v3 v4 v5 v6 v7 v8) = A_Lone v0 y v2 v3 v4 v5 v6 v7 v8 := by kernel_rfl
theorem l_Lone_leads {v0 v1 v2 v3 v4 v5 v6 v7 v8 : V} : (A_Lone v0 v1 v2 v3 v4 v5 v6 v7 v8).lookup ("leads" : Str) = some v2 := by kernel_rfl
theorem p_Lone_leads {v0 v1 v2 v3 v4 v5 v6 v7 v8 y : V} : putF "leads" y (A_Lone v0 v1 v2 v3 v4 v5 v6 v7 v8) = A_Lone v0 v1 y v3 v4 v5 v6 v7 v8 := by kernel_rfl
theorem l_Lone_at {v0 v1 v2 v3 v4 v5 v6 v7 v8 : V} : (A_Lone v0 v1 v2 v3 v4 v5 v6 v7 v8).lookup ("at" : Str) = some v3 := by kernel_rfl
theorem p_Lone_at {v0 v1 v2 v3 v4 v5 v6 v7 v8 y : V} : putF "at" y (A_Lone v0 v1 v2 v3 v4 v5 v6 v7 v8) = A_Lone v0 v1 v2 y v4 v5 v6 v7 v8 := by kernel_rfl
theorem l_Lone_held {v0 v1 v2 v3 v4 v5 v6 v7 v8 : V} : (A_Lone v0 v1 v2 v3 v4 v5 v6 v7 v8).lookup ("held" : Str) = some v4 := by kernel_rfl
theorem p_Lone_held {v0 v1 v2 v3 v4 v5 v6 v7 v8 y : V} : putF "held" y (A_Lone v0 v1 v2 v3 v4 v5 v6 v7 v8) = A_Lone v0 v1 v2 v3 y v5 v6 v7 v8 := by kernel_rfl
theorem l_Lone_coming {v0 v1 v2 v3 v4 v5 v6 v7 v8 : V} : (A_Lone v0 v1 v2 v3 v4 v5 v6 v7 v8).lookup ("coming" : Str) = some v5 := by kernel_rfl
theorem p_Lone_coming {v0 v1 v2 v3 v4 v5 v6 v7 v8 y : V} : putF "coming" y (A_Lone v0 v1 v2 v3 v4 v5 v6 v7 v8) = A_Lone v0 v1 v2 v3 v4 y v6 v7 v8 := by kernel_rfl
theorem l_Lone_gone {v0 v1 v2 v3 v4 v5 v6 v7 v8 : V} : (A_Lone v0 v1 v2 v3 v4 v5 v6 v7 v8).lookup ("gone" : Str) = some v6 := by kernel_rfl
theorem p_Lone_gone {v0 v1 v2 v3 v4 v5 v6 v7 v8 y : V} : putF "gone" y (A_Lone v0 v1 v2 v3 v4 v5 v6 v7 v8) = A_Lone v0 v1 v2 v3 v4 v5 y v7 v8 := by kernel_rfl
theorem l_Lone_notes {v0 v1 v2 v3 v4 v5 v6 v7 v8 : V} : (A_Lone v0 v1 v2 v3 v4 v5 v6 v7 v8).lookup ("notes" : Str) = some v7 := by kernel_rfl
theorem p_Lone_notes {v0 v1 v2 v3 v4 v5 v6 v7 v8 y : V} : putF "notes" y (A_Lone v0 v1 v2 v3 v4 v5 v6 v7 v8) = A_Lone v0 v1 v2 v3 v4 v5 v6 y v8 := by kernel_rfl
theorem l_Lone_done {v0 v1 v2 v3 v4 v5 v6 v7 v8 : V} : (A_Lone v0 v1 v2 v3 v4 v5 v6 v7 v8).lookup ("done" : Str) = some v8 := by kernel_rfl
theorem p_Lone_done {v0 v1 v2 v3 v4 v5 v6 v7 v8 y : V} : putF "done" y (A_Lone v0 v1 v2 v3 v4 v5 v6 v7 v8) = A_Lone v0 v1 v2 v3 v4 v5 v6 v7 y := by kernel_rfl
theorem n_Lone_stand {v0 v1 v2 v3 v4 v5 v6 v7 v8 : V} : (A_Lone v0 v1 v2 v3 v4 v5 v6 v7 v8).lookup ("stand" : Str) = none := by kernel_rfl
theorem n_Lone_told {v0 v1 v2 v3 v4 v5 v6 v7 v8 : V} : (A_Lone v0 v1 v2 v3 v4 v5 v6 v7 v8).lookup ("told" : Str) = none := by kernel_rfl
theorem n_Lone_count {v0 v1 v2 v3 v4 v5 v6 v7 v8 : V} : (A_Lone v0 v1 v2 v3 v4 v5 v6 v7 v8).lookup ("count" : Str) = none := by kernel_rfl
theorem n_Lone_value {v0 v1 v2 v3 v4 v5 v6 v7 v8 : V} : (A_Lone v0 v1 v2 v3 v4 v5 v6 v7 v8).lookup ("value" : Str) = none := by kernel_rfl
theorem n_Lone_step {v0 v1 v2 v3 v4 v5 v6 v7 v8 : V} : (A_Lone v0 v1 v2 v3 v4 v5 v6 v7 v8).lookup ("step" : Str) = none := by kernel_rfl
theorem i_Lone {v0 v1 v2 v3 v4 v5 v6 v7 v8 : V} : (putF "done" v8 (putF "notes" v7 (putF "gone" v6 (putF "coming" v5 (putF "held" v4 (putF "at" v3 (putF "leads" v2 (putF "rows" v1 (putF "kinds" v0 []))))))))) = A_Lone v0 v1 v2 v3 v4 v5 v6 v7 v8 := by kernel_rfl
theorem len_Lone {v0 v1 v2 v3 v4 v5 v6 v7 v8 : V} : (A_Lone v0 v1 v2 v3 v4 v5 v6 v7 v8).length < 1000 := lt1000 (by kernel_rfl)
def A_Plain (v0 v1 v2 : V) : List (Str × V) := [("make", v0), ("hands", v1), ("lines", v2)]
theorem l_Plain_make {v0 v1 v2 : V} : (A_Plain v0 v1 v2).lookup ("make" : Str) = some v0 := by kernel_rfl
theorem p_Plain_make {v0 v1 v2 y : V} : putF "make" y (A_Plain v0 v1 v2) = A_Plain y v1 v2 := by kernel_rfl
theorem l_Plain_hands {v0 v1 v2 : V} : (A_Plain v0 v1 v2).lookup ("hands" : Str) = some v1 := by kernel_rfl
theorem p_Plain_hands {v0 v1 v2 y : V} : putF "hands" y (A_Plain v0 v1 v2) = A_Plain v0 y v2 := by kernel_rfl
theorem l_Plain_lines {v0 v1 v2 : V} : (A_Plain v0 v1 v2).lookup ("lines" : Str) = some v2 := by kernel_rfl
theorem p_Plain_lines {v0 v1 v2 y : V} : putF "lines" y (A_Plain v0 v1 v2) = A_Plain v0 v1 y := by kernel_rfl
theorem n_Plain_share {v0 v1 v2 : V} : (A_Plain v0 v1 v2).lookup ("share" : Str) = none := by kernel_rfl
theorem n_Plain_step {v0 v1 v2 : V} : (A_Plain v0 v1 v2).lookup ("step" : Str) = none := by kernel_rfl
theorem n_Plain_stand {v0 v1 v2 : V} : (A_Plain v0 v1 v2).lookup ("stand" : Str) = none := by kernel_rfl
theorem n_Plain_told {v0 v1 v2 : V} : (A_Plain v0 v1 v2).lookup ("told" : Str) = none := by kernel_rfl
theorem n_Plain_count {v0 v1 v2 : V} : (A_Plain v0 v1 v2).lookup ("count" : Str) = none := by kernel_rfl
theorem n_Plain_letters {v0 v1 v2 : V} : (A_Plain v0 v1 v2).lookup ("letters" : Str) = none := by kernel_rfl
theorem i_Plain {v0 v1 v2 : V} : (putF "lines" v2 (putF "hands" v1 (putF "make" v0 []))) = A_Plain v0 v1 v2 := by kernel_rfl
theorem len_Plain {v0 v1 v2 : V} : (A_Plain v0 v1 v2).length < 1000 := lt1000 (by kernel_rfl)
end SwK
set_option maxHeartbeats 0
/-! the head: the top's run, its facts by names -/
namespace SwK
open PySem PySem.Spec PyProof.Rows L2
/-! ### the written part, looked up name by name -/
def nsG (g : Addr → Option Obj) (ns : Addr) (x : Str) : Addr := match g ns with
  | some ⟨_, _, .dict es _, _⟩ => (match es.toList.find? (fun e => e.key.isStr x) with
    | some e => (match e.val with
      | .ref a => a
      | _ => 0)
    | none => 0)
  | _ => 0
def codeG (g : Addr → Option Obj) (f : Addr) : Addr := match g f with
  | some ⟨_, _, .func fd, _⟩ => (match fd.code with
    | .ref c => c
    | _ => 0)
  | _ => 0
def dflG (g : Addr → Option Obj) (f : Addr) : Addr := match g f with
  | some ⟨_, _, .func fd, _⟩ => (match fd.defaults with
    | .ref c => c
    | _ => 0)
  | _ => 0
def clsG (g : Addr → Option Obj) (C : Addr) : Addr := match g C with
  | some ⟨_, _, .cls cd, _⟩ => cd.ns
  | _ => 0
def frN {α : Type} (n : Nat) (k : Nat → α) : α := match n with
  | 0 => k 0
  | m + 1 => k (m + 1)
theorem frN_eq {α : Type} (n : Nat) (k : Nat → α) : frN n k = k n := by cases n <;> rfl
/-- functions of the module, by name -/
def goF {α : Type} (g : Addr → Option Obj) (ns : Addr) : List Str → List Addr → (List Addr → α) → α
  | [], acc, k => k acc
  | x :: r, acc, k => frN (nsG g ns x) fun a => frN (codeG g a) fun c => goF g ns r (c :: a :: acc) k
/-- classes and their methods -/
def goC {α : Type} (g : Addr → Option Obj) : List (Str × List Str) → List Addr → (List Addr → α) → α
  | [], acc, k => k acc
  | (x, ms) :: r, acc, k => frN (nsG g mainGlobals x) fun C => frN (clsG g C) fun n => goF g n ms (n :: C :: acc) fun acc => goC g r acc k
theorem goF_eq {α : Type} (g : Addr → Option Obj) (ns : Addr) : ∀ (l : List Str) (acc : List Addr) (k : List Addr → α), ∃ l', goF g ns l acc k = k l'
  | [], acc, k => ⟨acc, rfl⟩
  | x :: r, acc, k => by
    show ∃ l', (frN (nsG g ns x) fun a => frN (codeG g a) fun c => goF g ns r (c :: a :: acc) k) = k l'
    rw [frN_eq, frN_eq]
    exact goF_eq g ns r _ k
theorem goC_eq {α : Type} (g : Addr → Option Obj) : ∀ (l : List (Str × List Str)) (acc : List Addr) (k : List Addr → α), ∃ l', goC g l acc k = k l'
  | [], acc, k => ⟨acc, rfl⟩
  | (x, ms) :: r, acc, k => by
    show ∃ l', (frN (nsG g mainGlobals x) fun C => frN (clsG g C) fun n => goF g n ms (n :: C :: acc) fun acc => goC g r acc k) = k l'
    rw [frN_eq, frN_eq]
    obtain ⟨l1, e1⟩ := goF_eq g (clsG g (nsG g mainGlobals x)) ms (clsG g (nsG g mainGlobals x) :: nsG g mainGlobals x :: acc) fun acc => goC g r acc k
    rw [e1]
    exact goC_eq g r _ k
def withK {α : Type} (g : Addr → Option Obj) (k : List Addr → α) : α := goF g mainGlobals fnNames [] fun acc => goC g clsNames acc fun acc => frN (dflG g (nsG g (clsG g (nsG g mainGlobals "Lone")) "__init__")) fun d => k (mainGlobals :: d :: acc)
theorem withK_eq {α : Type} (g : Addr → Option Obj) (k : List Addr → α) : ∃ l, withK g k = k l := by
  unfold withK
  obtain ⟨l1, e1⟩ := goF_eq g mainGlobals fnNames [] fun acc => goC g clsNames acc fun acc => frN (dflG g (nsG g (clsG g (nsG g mainGlobals "Lone")) "__init__")) fun d => k (mainGlobals :: d :: acc)
  rw [e1]
  obtain ⟨l2, e2⟩ := goC_eq g clsNames l1 fun acc => frN (dflG g (nsG g (clsG g (nsG g mainGlobals "Lone")) "__init__")) fun d => k (mainGlobals :: d :: acc)
  rw [e2, frN_eq]
  exact ⟨_, rfl⟩
def obsW (g : Addr → Option Obj) : He.AlD × Bool := withK g fun l => (He.obsD faAll fnAll (He.frG g l), cmpB (He.frG g l) (He.ga (He.frG g l) "Over"))
abbrev R : PySem.W.OpenRow := PySem.W.OpenLaw.row PySem.Challenge.rw_swapstride_k55_elder_alone_is_plain
def hk : PySem.W.Hook where
  α := He.AlD × Bool
  obs := fun s => obsW s.heap.get?
  val := fun _ => (He.valD fnAll, true)
  says := fun _ h => ∃ K : PySem.W.Frag, K.In h ∧ He.SaysD faAll fnAll K ∧ cmpB K (He.ga K "Over") = true
  of := fun _ s e => by
    obtain ⟨l, el⟩ := withK_eq s.heap.get? fun l => (He.obsD faAll fnAll (He.frG s.heap.get? l), cmpB (He.frG s.heap.get? l) (He.ga (He.frG s.heap.get? l) "Over"))
    have e2 := el.symm.trans e
    exact ⟨He.frG s.heap.get? l, He.frG_in, congrArg Prod.fst e2, congrArg Prod.snd e2⟩
  keeps := fun _ _ _ ⟨K, hK, c, d⟩ k => ⟨K, PySem.W.Frag.In.keeps hK k, c, d⟩
def ob (s : PySem.W.SharedT) : He.AlD × Bool := obsW (HandSHeadRun.getT s)
theorem ob_eq (s : PySem.W.SharedT) : ob s = hk.obs s.abs := by
  have e : HandSHeadRun.getT s = s.abs.heap.get? := funext (HandSHeadRun.getT_eq s)
  show obsW (HandSHeadRun.getT s) = obsW s.abs.heap.get?
  rw [e]
theorem run (w : World) : HandSHeadRun.RunEq R (PySem.W.view R.prog [111]) hk ob 8000 looseAll w := by
  intro os
  kernel_rfl
end SwK
set_option maxHeartbeats 4000000
/-! immutable data; promises by arguments; readings -/
namespace SwK
open PySem PySem.Spec PyProof.Rows L2
/-! ### data that never changes: ints, texts, tuples -/
inductive Da where
  | int (i : Int)
  | str (x : Str)
  | tup (l : List Da)
  /-- a tuple whose object is known to have no dict -/
  | pt (l : List Da)
mutual
inductive Im (H : Hp) : V → Da → Prop
  | int (i : Int) : Im H (.int i) (.int i)
  | str (x : Str) : Im H (.str x) (.str x)
  | tup {a : Addr} {xs : List V} {ds : List Da} : H a = some (.tup xs) → ImL H xs ds → Im H (.ref a) (.tup ds)
  | pt {a : Addr} {o : Obj} {xs : List V} {ds : List Da} : H a = some (.frz o (.tup xs)) → o.dict = none → ImL H xs ds → Im H (.ref a) (.pt ds)
inductive ImL (H : Hp) : List V → List Da → Prop
  | nil : ImL H [] []
  | cons {v : V} {vs : List V} {d : Da} {ds : List Da} : Im H v d → ImL H vs ds → ImL H (v :: vs) (d :: ds)
end
/-- all tuples stand as they stood -/
def TupO : HO → Prop
  | .tup _ => True
  | .frz _ (.tup _) => True
  | _ => False
def Tk (H H' : Hp) : Prop := ∀ a o, H a = some o → TupO o → H' a = some o
theorem Tk.refl (H : Hp) : Tk H H := fun _ _ h _ => h
theorem Tk.trans {H H1 H2 : Hp} (a : Tk H H1) (b : Tk H1 H2) : Tk H H2 := fun x xs h t => b x xs (a x xs h t) t
theorem Tk.of {H H' : Hp} (s : Same H H') : Tk H H' := fun a xs h _ => s a _ h
mutual
theorem Im.mono {H H' : Hp} (k : Tk H H') : ∀ {d : Da} {v : V}, Im H v d → Im H' v d
  | .int i, _, h => by cases h; exact .int i
  | .str x, _, h => by cases h; exact .str x
  | .tup ds, _, h => by cases h with | tup e l => exact .tup (k _ _ e trivial) (ImL.mono k l)
  | .pt ds, _, h => by cases h with | pt e d l => exact .pt (k _ _ e trivial) d (ImL.mono k l)
theorem ImL.mono {H H' : Hp} (k : Tk H H') : ∀ {ds : List Da} {vs : List V}, ImL H vs ds → ImL H' vs ds
  | [], _, h => by cases h; exact .nil
  | d :: ds, _, h => by cases h with | cons a b => exact .cons (Im.mono k a) (ImL.mono k b)
end
section
variable {H : Hp} {v : V} {vs : List V} {d : Da} {ds : List Da}
theorem im_int {i : Int} (h : Im H v (.int i)) : v = .int i := by cases h; rfl
theorem im_str {x : Str} (h : Im H v (.str x)) : v = .str x := by cases h; rfl
theorem im_tup (h : Im H v (.tup ds)) : ∃ a xs, v = .ref a ∧ H a = some (.tup xs) ∧ ImL H xs ds := by
  cases h with | tup e l => exact ⟨_, _, rfl, e, l⟩
theorem im_pt (h : Im H v (.pt ds)) : ∃ a o xs, v = .ref a ∧ H a = some (.frz o (.tup xs)) ∧ o.dict = none ∧ ImL H xs ds := by
  cases h with | pt e d l => exact ⟨_, _, _, rfl, e, d, l⟩
theorem sqT_frz {K : PySem.W.Frag} {a : Addr} {o : Obj} {xs : List V} (h : H a = some (.frz o (.tup xs))) : SqT K H a xs := .inl (.inr ⟨o, h⟩)
theorem iml_nil (h : ImL H vs []) : vs = [] := by cases h; rfl
theorem iml_cons (h : ImL H vs (d :: ds)) : ∃ v r, vs = v :: r ∧ Im H v d ∧ ImL H r ds := by
  cases h with | cons a b => exact ⟨_, _, rfl, a, b⟩
theorem ImL.length (h : ImL H vs ds) : vs.length = ds.length := by
  induction ds generalizing vs with
  | nil => rw [iml_nil h] <;> rfl
  | cons d ds ih =>
    obtain ⟨v, r, rfl, _, b⟩ := iml_cons h
    rw [List.length_cons, List.length_cons, ih b]
theorem ImL.get {j : Nat} {d : Da} (h : ImL H vs ds) (e : ds[j]? = some d) : ∃ v, vs[j]? = some v ∧ Im H v d := by
  induction ds generalizing vs j with
  | nil => simp at e
  | cons c cs ih =>
    obtain ⟨v, r, rfl, a, b⟩ := iml_cons h
    cases j with
    | zero =>
      have e' : c = d := by simpa using e
      subst e'
      exact ⟨v, by simp, a⟩
    | succ j =>
      obtain ⟨v', e1, e2⟩ := ih b (by simpa using e)
      exact ⟨v', by simpa using e1, e2⟩
theorem ImL.get' {j : Nat} {v : V} (h : ImL H vs ds) (e : vs[j]? = some v) : ∃ d, ds[j]? = some d ∧ Im H v d := by
  have hl := h.length
  have hj := (List.getElem?_eq_some_iff.mp e).1
  obtain ⟨d, ed⟩ : ∃ d, ds[j]? = some d := ⟨ds[j]'(by omega), by simp⟩
  obtain ⟨v', e1, e2⟩ := h.get ed
  rw [e] at e1
  cases e1
  exact ⟨d, ed, e2⟩
theorem ImL.append {ws : List V} {es : List Da} (h : ImL H vs ds) (g : ImL H ws es) : ImL H (vs ++ ws) (ds ++ es) := by
  induction ds generalizing vs with
  | nil => rw [iml_nil h] <;> exact g
  | cons d ds ih =>
    obtain ⟨v, r, rfl, a, b⟩ := iml_cons h
    exact .cons a (ih b)
theorem ImL.one (h : Im H v d) : ImL H [v] [d] := .cons h .nil
theorem im1 {d1 : Da} (h : Im H v (.tup [d1])) : ∃ a x1, v = .ref a ∧ H a = some (.tup [x1]) ∧ Im H x1 d1 := by
  obtain ⟨a, xs, rfl, e, l⟩ := im_tup h
  obtain ⟨x1, r, rfl, h1, l⟩ := iml_cons l
  cases iml_nil l
  exact ⟨a, x1, rfl, e, h1⟩
theorem im2 {d1 d2 : Da} (h : Im H v (.tup [d1, d2])) : ∃ a x1 x2, v = .ref a ∧ H a = some (.tup [x1, x2]) ∧ Im H x1 d1 ∧ Im H x2 d2 := by
  obtain ⟨a, xs, rfl, e, l⟩ := im_tup h
  obtain ⟨x1, r, rfl, h1, l⟩ := iml_cons l
  obtain ⟨x2, r, rfl, h2, l⟩ := iml_cons l
  cases iml_nil l
  exact ⟨a, x1, x2, rfl, e, h1, h2⟩
theorem im3 {d1 d2 d3 : Da} (h : Im H v (.tup [d1, d2, d3])) : ∃ a x1 x2 x3, v = .ref a ∧ H a = some (.tup [x1, x2, x3]) ∧ Im H x1 d1 ∧ Im H x2 d2 ∧ Im H x3 d3 := by
  obtain ⟨a, xs, rfl, e, l⟩ := im_tup h
  obtain ⟨x1, r, rfl, h1, l⟩ := iml_cons l
  obtain ⟨x2, r, rfl, h2, l⟩ := iml_cons l
  obtain ⟨x3, r, rfl, h3, l⟩ := iml_cons l
  cases iml_nil l
  exact ⟨a, x1, x2, x3, rfl, e, h1, h2, h3⟩
theorem im4 {d1 d2 d3 d4 : Da} (h : Im H v (.tup [d1, d2, d3, d4])) : ∃ a x1 x2 x3 x4, v = .ref a ∧ H a = some (.tup [x1, x2, x3, x4]) ∧ Im H x1 d1 ∧ Im H x2 d2 ∧ Im H x3 d3 ∧ Im H x4 d4 := by
  obtain ⟨a, xs, rfl, e, l⟩ := im_tup h
  obtain ⟨x1, r, rfl, h1, l⟩ := iml_cons l
  obtain ⟨x2, r, rfl, h2, l⟩ := iml_cons l
  obtain ⟨x3, r, rfl, h3, l⟩ := iml_cons l
  obtain ⟨x4, r, rfl, h4, l⟩ := iml_cons l
  cases iml_nil l
  exact ⟨a, x1, x2, x3, x4, rfl, e, h1, h2, h3, h4⟩
end
/-- a new tuple is data -/
theorem im_new {H : Hp} {p : Addr} {xs : List V} {ds : List Da} (hp : H p = none) (l : ImL H xs ds) : Im (upd H p (.tup xs)) (.ref p) (.tup ds) :=
  .tup upd_same (l.mono fun a ys e _ => by rw [upd_ne (ne_of_none e hp)]; exact e)
theorem im_newP {H : Hp} {p : Addr} {o : Obj} {xs : List V} {ds : List Da} (hp : H p = none) (hd : o.dict = none) (l : ImL H xs ds) : Im (upd H p (.frz o (.tup xs))) (.ref p) (.pt ds) :=
  .pt upd_same hd (l.mono fun a ys e _ => by rw [upd_ne (ne_of_none e hp)]; exact e)
theorem same_new {H : Hp} {p : Addr} {o : HO} (hp : H p = none) : Same H (upd H p o) := fun a u e => by
  rw [upd_ne (ne_of_none e hp)]
  exact e
/-- all but the objects at F stand as they stood -/
def Bt (F : Addr → Prop) (H H' : Hp) : Prop := ∀ a o, H a = some o → ¬ F a → H' a = some o
theorem Bt.of {F : Addr → Prop} {H H' : Hp} (s : Same H H') : Bt F H H' := fun a o e _ => s a o e
theorem Bt.trans {F : Addr → Prop} {H H1 H2 : Hp} (a : Bt F H H1) (b : Bt F H1 H2) : Bt F H H2 := fun x o h n => b x o (a x o h n) n
theorem Bt.put {F : Addr → Prop} {H : Hp} {a : Addr} {o : HO} (h : F a) : Bt F H (upd H a o) := fun x u e n => by
  have hx : x ≠ a := by
    intro z
    rw [z] at n
    exact n h
  rw [upd_ne hx]
  exact e
/-- tuples aren't among them -/
theorem Bt.tk {F : Addr → Prop} {H H' : Hp} (b : Bt F H H') (h : ∀ a o, F a → H a = some o → ¬ TupO o) : Tk H H' := fun a o e t => b a _ e fun f => h a o f e t

/-! ### promises by their arguments -/
abbrev VQ := Hp → VK → Prop
def sp1 (f : V → VQ) : Sp := fun vs H Q _ => match vs with | [a] => f a H Q | _ => False
def sp2 (f : V → V → VQ) : Sp := fun vs H Q _ => match vs with | [a, b] => f a b H Q | _ => False
def sp3 (f : V → V → V → VQ) : Sp := fun vs H Q _ => match vs with | [a, b, c] => f a b c H Q | _ => False
def sp4 (f : V → V → V → V → VQ) : Sp := fun vs H Q _ => match vs with | [a, b, c, d] => f a b c d H Q | _ => False
def sp5 (f : V → V → V → V → V → VQ) : Sp := fun vs H Q _ => match vs with | [a, b, c, d, e] => f a b c d e H Q | _ => False
def sp6 (f : V → V → V → V → V → V → VQ) : Sp := fun vs H Q _ => match vs with | [a, b, c, d, e, g] => f a b c d e g H Q | _ => False
def sp7 (f : V → V → V → V → V → V → V → VQ) : Sp := fun vs H Q _ => match vs with | [a, b, c, d, e, g, i] => f a b c d e g i H Q | _ => False
section
variable {P : Program} {w : World} {K : PySem.W.Frag} {mg : Str → Option Value} {base : Heap}
/-- the body of a def, to its promise -/
abbrev BodyOk (P : Program) (w : World) (K : PySem.W.Frag) (mg : Str → Option Value) (base : Heap) (N : List Str) (qual : Str) (st : Stmt) (f : Addr) (k : Nat) (vs : List V) (H : Hp) (Q : VK) : Prop :=
  ∀ (cdv : Value) (A : Around) (outer : List Env) (s : Shared) (E : XK), Room k (A.deeper (envOfC qual (defScope st) s.heap.objs.size f cdv)) →
    ∃ t, PSs (cxOf CX0 P w K mg base N qual (defScope st) f cdv A outer s H E).nox (defBody st) t ∧ t { nx := fun _ H' => Q .non H', rt := Q } (L2.start N vs) H
abbrev BndQ (x qual : Str) (st : Stmt) (ps : List Str) : Prop := ∀ (kV doc pm : Value) (an : Option Addr) (cdv ct : Value) (us : List Value), us.length = ps.length →
  bindArgs (PySem.W.fnOf x qual (defArgs st) (defBody st) (defScope st) .none kV doc pm an cdv ct) ⟨us, []⟩ = pure (ps.zip us)
theorem mkFn {x qual : Str} {st : Stmt} {N ps : List Str} {f : Addr} {fd : FuncData} {dvs : List V} {k : Nat} {sp : Sp} (F : FunD K x qual (defArgs st) (defBody st) (defScope st) dvs [] f fd) (S : FnScope N ps (defScope st))
    (len : ∀ vs H Q E, sp vs H Q E → vs.length = ps.length) (body : ∀ vs H Q E, sp vs H Q E → BodyOk P w K mg base N qual st f k vs H Q) : FnOk P w K mg base CX0 (k + 1) f fd ps sp :=
  F.ok S len fun cdv A outer s H vs Q E hr h => by
    obtain ⟨t, h1, h2⟩ := body vs H Q E h cdv A outer s E hr
    exact ⟨t, h1.nox, h2⟩
theorem mkCal {x nm qual : Str} {st : Stmt} {N ps : List Str} {k : Nat} {sp : Sp} (F : ∃ fd, FunD K nm qual (defArgs st) (defBody st) (defScope st) [] [] (He.ga K x) fd) (hm : mg x = some (.ref (He.ga K x)))
    (S : FnScope N ps (defScope st)) (hb : BndQ nm qual st ps) (len : ∀ vs H Q E, sp vs H Q E → vs.length = ps.length) (body : ∀ vs H Q E, sp vs H Q E → BodyOk P w K mg base N qual st (He.ga K x) k vs H Q) : C8.Cal P w K mg base (k + 1) x sp [] := by
  obtain ⟨fd, F⟩ := F
  exact ⟨_, fd, ps, [], mkFn F S len body, hm, F.kp, F.bindsN hb, .nil⟩
theorem mkMet {C : Addr} {m qual : Str} {st : Stmt} {N ps : List Str} {k : Nat} {sp : Sp} (F : ∃ fd, FunD K m qual (defArgs st) (defBody st) (defScope st) [] [] (He.ma K C m) fd) (cl : Cls K C) (me : Meth K C m (He.ma K C m))
    (S : FnScope N ps (defScope st)) (hb : BndQ m qual st ps) (len : ∀ vs H Q E, sp vs H Q E → vs.length = ps.length) (body : ∀ vs H Q E, sp vs H Q E → BodyOk P w K mg base N qual st (He.ma K C m) k vs H Q) : C8.Met P w K mg base (k + 1) C m sp [] := by
  obtain ⟨fd, F⟩ := F
  exact ⟨_, fd, ps, [], cl, me, mkFn F S len body, F.bindsN hb, .nil⟩
theorem mkMak {x qual : Str} {st : Stmt} {N ps : List Str} {k : Nat} {sp : Sp} (F : ∃ fd, FunD K "__init__" qual (defArgs st) (defBody st) (defScope st) [] [] (He.ma K (He.ga K x) "__init__") fd) (hm : mg x = some (.ref (He.ga K x)))
    (M : Mk K (He.ga K x) (He.ma K (He.ga K x) "__init__")) (S : FnScope N ps (defScope st)) (hb : BndQ "__init__" qual st ps) (len : ∀ vs H Q E, sp vs H Q E → vs.length = ps.length)
    (body : ∀ vs H Q E, sp vs H Q E → BodyOk P w K mg base N qual st (He.ma K (He.ga K x) "__init__") k vs H Q) : C8.Mak P w K mg base (k + 1) x (He.ga K x) sp [] := by
  obtain ⟨fd, F⟩ := F
  exact ⟨_, fd, ps, [], M, mkFn F S len body, hm, F.bindsN hb, .nil⟩
end
theorem sp1_len {f : V → VQ} {vs : List V} {H : Hp} {Q : VK} {E : XK} (h : sp1 f vs H Q E) : ∃ a, vs = [a] ∧ f a H Q := by
  match vs, h with
  | [a], h => exact ⟨a, rfl, h⟩
theorem sp2_len {f : V → V → VQ} {vs : List V} {H : Hp} {Q : VK} {E : XK} (h : sp2 f vs H Q E) : ∃ a b, vs = [a, b] ∧ f a b H Q := by
  match vs, h with
  | [a, b], h => exact ⟨a, b, rfl, h⟩
theorem sp3_len {f : V → V → V → VQ} {vs : List V} {H : Hp} {Q : VK} {E : XK} (h : sp3 f vs H Q E) : ∃ a b c, vs = [a, b, c] ∧ f a b c H Q := by
  match vs, h with
  | [a, b, c], h => exact ⟨a, b, c, rfl, h⟩
theorem sp4_len {f : V → V → V → V → VQ} {vs : List V} {H : Hp} {Q : VK} {E : XK} (h : sp4 f vs H Q E) : ∃ a b c d, vs = [a, b, c, d] ∧ f a b c d H Q := by
  match vs, h with
  | [a, b, c, d], h => exact ⟨a, b, c, d, rfl, h⟩
theorem sp5_len {f : V → V → V → V → V → VQ} {vs : List V} {H : Hp} {Q : VK} {E : XK} (h : sp5 f vs H Q E) : ∃ a b c d e, vs = [a, b, c, d, e] ∧ f a b c d e H Q := by
  match vs, h with
  | [a, b, c, d, e], h => exact ⟨a, b, c, d, e, rfl, h⟩
theorem sp6_len {f : V → V → V → V → V → V → VQ} {vs : List V} {H : Hp} {Q : VK} {E : XK} (h : sp6 f vs H Q E) : ∃ a b c d e g, vs = [a, b, c, d, e, g] ∧ f a b c d e g H Q := by
  match vs, h with
  | [a, b, c, d, e, g], h => exact ⟨a, b, c, d, e, g, rfl, h⟩
theorem sp7_len {f : V → V → V → V → V → V → V → VQ} {vs : List V} {H : Hp} {Q : VK} {E : XK} (h : sp7 f vs H Q E) : ∃ a b c d e g i, vs = [a, b, c, d, e, g, i] ∧ f a b c d e g i H Q := by
  match vs, h with
  | [a, b, c, d, e, g, i], h => exact ⟨a, b, c, d, e, g, i, rfl, h⟩
end SwK
set_option maxHeartbeats 4000000
/-! == and != of equal things at any depth: lists, tuples, dicts -/
namespace SwE
open PySem PySem.SeqAt
open AutoSeq1 (wpAny_loadPart')
open MeetsSeq MeetsSeq2 MeetsSeq3 SeqRoads2
section
variable {prog : Program} {w : World}
/-- the loop of !=, all items equal -/
theorem neLoop (l b : Addr) (xs ys : Array Value) (n n2 : Nat) (dd dd2 : Option Addr) (sl sl2 : Array (Option Value)) (hsz : xs.size = ys.size) (k : Nat) :
    ∀ i : Nat, xs.size - i = k → MeetsIn prog w (Builtin.«list.__eq__.loop» ⟨[.ref l, .ref b, rawInt i, rawInt 3], []⟩)
      (fun A R s => s.heap.get? l = some { cls := .type "list", dict := dd, data := .seq xs n, slots := sl } ∧
        s.heap.get? b = some { cls := .type "list", dict := dd2, data := .seq ys n2, slots := sl2 } ∧
        (∀ j (h1 : j < xs.size) (h2 : j < ys.size), EqP prog w A.in1 s xs[j] ys[j] true) ∧ R (.ok (.ret (.bool false))) s) := by
  induction k with
  | zero =>
    intro i hk A R s h
    obtain ⟨hp, g, d, tk, os⟩ := s
    obtain ⟨hl, hb, he, h⟩ := h
    wp_walk using wpAny_loadPart' hl, wpAny_loadPart' hb
    have i1 : xs[((i : Nat) : Int).toNat]? = none := by
      simp
      omega
    have i2 : ys[((i : Nat) : Int).toNat]? = none := by
      simp
      omega
    rw [i1, i2]
    wp_walk using wpAny_loadPart' hl, wpAny_loadPart' hb
    show R (.ok (.ret (.bool (xs.size != ys.size)))) _
    rw [hsz, bne_self_eq_false]
    exact h
  | succ k ih =>
    intro i hk A R s h
    obtain ⟨hp, g, d, tk, os⟩ := s
    obtain ⟨hl, hb, he, h⟩ := h
    wp_walk using wpAny_loadPart' hl, wpAny_loadPart' hb
    have l1 : i < xs.size := by omega
    have l2 : i < ys.size := by omega
    have i1 : xs[((i : Nat) : Int).toNat]? = some xs[i] := by simp [l1]
    have i2 : ys[((i : Nat) : Int).toNat]? = some ys[i] := by simp [l2]
    have hc : ((i : Int) + 1) = ((i + 1 : Nat) : Int) := by omega
    rw [i1, i2]
    refine wpAny_bind (he i l1 l2 _ _ ?_)
    wp_walk
    rw [hc]
    exact ⟨plainId_quiet plain_eq_loop _, codeAny_builtin entry_eq_loop (by
      rw [Around.under_plainId plain_eq_loop _]
      exact ih (i + 1) (by omega) A R _ ⟨hl, hb, he, h⟩)⟩
theorem listNe (l b : Addr) (xs ys : Array Value) (n n2 : Nat) (dd dd2 : Option Addr) (sl sl2 : Array (Option Value)) (hsz : xs.size = ys.size) :
    MeetsIn prog w (Builtin.«list.__ne__» ⟨[.ref l, .ref b], []⟩)
      (fun A R s => s.heap.get? l = some { cls := .type "list", dict := dd, data := .seq xs n, slots := sl } ∧
        s.heap.get? b = some { cls := .type "list", dict := dd2, data := .seq ys n2, slots := sl2 } ∧
        (∀ j (h1 : j < xs.size) (h2 : j < ys.size), EqP prog w A.in1 s xs[j] ys[j] true) ∧ R (.ok (.ret (.bool false))) s) := by
  intro A R s h
  obtain ⟨hp, g, d, tk, os⟩ := s
  obtain ⟨hl, hb, he, h⟩ := h
  have f3 := AutoSeq1.sub_list_list
  have hne : ¬ (xs.size != ys.size) = true := by simp [hsz]
  wp_walk using wpAny_loadPart' hl, wpAny_loadPart' hb
  exact ⟨plainId_quiet plain_eq_loop _, codeAny_builtin entry_eq_loop (by
    rw [Around.under_plainId plain_eq_loop _]
    exact neLoop l b xs ys n n2 dd dd2 sl sl2 hsz _ 0 rfl A R _ ⟨hl, hb, he, h⟩)⟩
theorem rcListNe {A : Around} {s : Shared} {l b : Addr} {xs ys : Array Value} (hl : s.heap.IsList l xs) (hb : s.heap.IsList b ys) (hsz : xs.size = ys.size) (hu : A.units < cLine)
    (he : ∀ j (h1 : j < xs.size) (h2 : j < ys.size), EqP prog w A.in1 s xs[j] ys[j] true) (E Q : Value → Shared → Prop) (h : Q (.bool false) s) : wpAny (model prog w) A (richCompare .NotEq (.ref l) (.ref b)) Q E s := by
  obtain ⟨⟨c1, dd, t1, sl⟩, ho, hc, n, hd⟩ := id hl
  obtain ⟨⟨c2, dd2, t2, sl2⟩, ho2, hc2, n2, hd2⟩ := id hb
  simp only at hc hd hc2 hd2
  subst hc hd hc2 hd2
  have ta : s.TypeIs (.ref l) "list" := ⟨_, ho, rfl⟩
  have tb : s.TypeIs (.ref b) "list" := ⟨_, ho2, rfl⟩
  exact wpAny_richCompare_same_room (op := .NotEq) ta tb F.slot_list_ne (call_meetsIn F.slot_list_ne ta F.entry_list_ne (F.args_list_ne_2 _ _) (listNe l b xs ys n n2 dd dd2 sl sl2 hsz)
    ⟨ho, ho2, he, show Value.bool false ≠ Value.notImplemented ∧ Q (.bool false) s from ⟨(fun x => nomatch x), h⟩⟩) hu

/-- tuples of one size, all items equal: == (k true), != (k false) -/
theorem tupEq (l b : Addr) (xs ys : Array Value) (n n2 : Nat) (dd dd2 : Option Addr) (sl sl2 : Array (Option Value)) (hsz : xs.size = ys.size) :
    MeetsIn prog w (Builtin.«tuple.__eq__» ⟨[.ref l, .ref b], []⟩)
      (fun A R s => s.heap.get? l = some { cls := .type "tuple", dict := dd, data := .seq xs n, slots := sl } ∧
        s.heap.get? b = some { cls := .type "tuple", dict := dd2, data := .seq ys n2, slots := sl2 } ∧
        (∀ j (h1 : j < xs.size) (h2 : j < ys.size), EqP prog w A.in1 s xs[j] ys[j] true) ∧ R (.ok (.ret (.bool true))) s) := by
  intro A R s h
  obtain ⟨hp, g, d, tk, os⟩ := s
  obtain ⟨hl, hb, he, h⟩ := h
  have f2 := AutoSeq1.sub_tuple_tuple
  have hZ : (xs.toList.zip ys.toList).length = min xs.size ys.size := by simp
  wp_walk using wpAny_loadPart' hl, wpAny_loadPart' hb, wpAny_forIn_list _ (fun rest b s' => b.1 = none ∧ s' = ⟨hp, g, d, tk, os⟩ ∧ ∃ i, rest = (xs.toList.zip ys.toList).drop i) _
  case turn =>
    rintro ⟨y, x⟩ rest b s' ⟨hb', rfl, i, hz⟩
    have hlt : i < (xs.toList.zip ys.toList).length := by
      rcases Nat.lt_or_ge i (xs.toList.zip ys.toList).length with h' | h'
      · exact h'
      · rw [List.drop_of_length_le h'] at hz
        cases hz
    have h1 : i < xs.size := Nat.lt_of_lt_of_le (hZ ▸ hlt) (Nat.min_le_left _ _)
    have h2 : i < ys.size := Nat.lt_of_lt_of_le (hZ ▸ hlt) (Nat.min_le_right _ _)
    rw [List.drop_eq_getElem_cons hlt] at hz
    injection hz with hyx hrest
    have hy : y = xs[i] := by
      have := congrArg Prod.fst hyx
      simpa using this
    have hx : x = ys[i] := by
      have := congrArg Prod.snd hyx
      simpa using this
    subst hy hx
    refine wpAny_bind (he i h1 h2 _ _ ?_)
    wp_walk
    exact ⟨rfl, rfl, i + 1, hrest⟩
  case fin =>
    rintro ⟨b1, b2⟩ s' ⟨hb', rfl, i, hz⟩
    simp only at hb'
    subst hb'
    wp_walk
    simpa [Builtin.Tuple.tupleCompareSizes, hsz] using h
  case h =>
    exact ⟨rfl, rfl, 0, rfl⟩
theorem tupNe (l b : Addr) (xs ys : Array Value) (n n2 : Nat) (dd dd2 : Option Addr) (sl sl2 : Array (Option Value)) (hsz : xs.size = ys.size) :
    MeetsIn prog w (Builtin.«tuple.__ne__» ⟨[.ref l, .ref b], []⟩)
      (fun A R s => s.heap.get? l = some { cls := .type "tuple", dict := dd, data := .seq xs n, slots := sl } ∧
        s.heap.get? b = some { cls := .type "tuple", dict := dd2, data := .seq ys n2, slots := sl2 } ∧
        (∀ j (h1 : j < xs.size) (h2 : j < ys.size), EqP prog w A.in1 s xs[j] ys[j] true) ∧ R (.ok (.ret (.bool false))) s) := by
  intro A R s h
  obtain ⟨hp, g, d, tk, os⟩ := s
  obtain ⟨hl, hb, he, h⟩ := h
  have f2 := AutoSeq1.sub_tuple_tuple
  have hZ : (xs.toList.zip ys.toList).length = min xs.size ys.size := by simp
  wp_walk using wpAny_loadPart' hl, wpAny_loadPart' hb, wpAny_forIn_list _ (fun rest b s' => b.1 = none ∧ s' = ⟨hp, g, d, tk, os⟩ ∧ ∃ i, rest = (xs.toList.zip ys.toList).drop i) _
  case turn =>
    rintro ⟨y, x⟩ rest b s' ⟨hb', rfl, i, hz⟩
    have hlt : i < (xs.toList.zip ys.toList).length := by
      rcases Nat.lt_or_ge i (xs.toList.zip ys.toList).length with h' | h'
      · exact h'
      · rw [List.drop_of_length_le h'] at hz
        cases hz
    have h1 : i < xs.size := Nat.lt_of_lt_of_le (hZ ▸ hlt) (Nat.min_le_left _ _)
    have h2 : i < ys.size := Nat.lt_of_lt_of_le (hZ ▸ hlt) (Nat.min_le_right _ _)
    rw [List.drop_eq_getElem_cons hlt] at hz
    injection hz with hyx hrest
    have hy : y = xs[i] := by
      have := congrArg Prod.fst hyx
      simpa using this
    have hx : x = ys[i] := by
      have := congrArg Prod.snd hyx
      simpa using this
    subst hy hx
    refine wpAny_bind (he i h1 h2 _ _ ?_)
    wp_walk
    exact ⟨rfl, rfl, i + 1, hrest⟩
  case fin =>
    rintro ⟨b1, b2⟩ s' ⟨hb', rfl, i, hz⟩
    simp only at hb'
    subst hb'
    wp_walk
    simpa [Builtin.Tuple.tupleCompareSizes, bne, hsz] using h
  case h =>
    exact ⟨rfl, rfl, 0, rfl⟩
theorem rcTup {A : Around} {s : Shared} {l b : Addr} {xs ys : Array Value} (hl : s.heap.IsTuple l xs) (hb : s.heap.IsTuple b ys) (hsz : xs.size = ys.size) (hu : A.units < cLine)
    (he : ∀ j (h1 : j < xs.size) (h2 : j < ys.size), EqP prog w A.in1 s xs[j] ys[j] true) (E Q : Value → Shared → Prop) :
    (Q (.bool true) s → wpAny (model prog w) A (richCompare .Eq (.ref l) (.ref b)) Q E s) ∧ (Q (.bool false) s → wpAny (model prog w) A (richCompare .NotEq (.ref l) (.ref b)) Q E s) := by
  obtain ⟨⟨c1, dd, t1, sl⟩, ho, hc, n, hd⟩ := id hl
  obtain ⟨⟨c2, dd2, t2, sl2⟩, ho2, hc2, n2, hd2⟩ := id hb
  simp only at hc hd hc2 hd2
  subst hc hd hc2 hd2
  have ta : s.TypeIs (.ref l) "tuple" := ⟨_, ho, rfl⟩
  have tb : s.TypeIs (.ref b) "tuple" := ⟨_, ho2, rfl⟩
  refine ⟨fun h => ?_, fun h => ?_⟩
  · exact wpAny_richCompare_same_room (op := .Eq) ta tb F.slot_tuple_eq (call_meetsIn F.slot_tuple_eq ta F.entry_tuple_eq (F.args_tuple_eq_2 _ _) (tupEq l b xs ys n n2 dd dd2 sl sl2 hsz)
      ⟨ho, ho2, he, show Value.bool true ≠ Value.notImplemented ∧ Q (.bool true) s from ⟨(fun x => nomatch x), h⟩⟩) hu
  · exact wpAny_richCompare_same_room (op := .NotEq) ta tb F.slot_tuple_ne (call_meetsIn F.slot_tuple_ne ta F.entry_tuple_ne (F.args_tuple_ne_2 _ _) (tupNe l b xs ys n n2 dd dd2 sl sl2 hsz)
      ⟨ho, ho2, he, show Value.bool false ≠ Value.notImplemented ∧ Q (.bool false) s from ⟨(fun x => nomatch x), h⟩⟩) hu
/-- != of two dicts that hold the same -/
theorem rcDictNe {K : Type} [DecidableEq K] {knd : KeyKind prog w K} {A : Around} {s : Shared} {a b : Addr} {ka kb : List (K × Value)} (ha : (a == sysModules) = false) (hb : (b == sysModules) = false)
    (da : s.heap.DictOf knd a ka) (db : s.heap.DictOf knd b kb) (hu : A.units < cLine) (hits : ka.length = kb.length → PySem.W.KeqHitsP prog w A.in1 s kb ka true) (hlen : ka.length = kb.length) (E Q : Value → Shared → Prop) (h : Q (.bool false) s) :
    wpAny (model prog w) A (richCompare .NotEq (.ref a) (.ref b)) Q E s := by
  refine wpAny_richCompare_same_room (op := .NotEq) da.typeIs db.typeIs PySem.F.slot_dict_ne (wpAny_call_entry PySem.F.slot_dict_ne da.typeIs PySem.F.entry_dict_ne ?_ (PySem.F.args_dict_ne_2 _ _)) hu
  show wpAny _ _ (Builtin.Dict.dictSlotArgs "__ne__" ⟨[.ref a, .ref b], []⟩ >>= _) _ _ s
  refine wpAny_bind ?_
  unfold Builtin.Dict.dictSlotArgs
  refine wpAny_bind (wpAny_notOrdered_dict da.typeIs ?_)
  show wpAny _ _ (pure (Value.ref a, Value.ref b)) _ _ s
  refine wpAny_pure ?_
  refine wpAny_bind (wpAny_isInstance (T := "dict") db.typeIs PySem.F.sub_dict_dict ?_)
  simp only [Bool.not_true, Bool.false_eq_true, if_false]
  refine wpAny_bind (wpAny_pure (wpAny_bind (wpAny_pure ?_)))
  refine wpAny_bind (PySem.W.samePairsP ha hb da db hits ?_)
  refine wpAny_pure ⟨_, rfl, ?_, ?_⟩
  · exact fun x => nomatch x
  · simpa [hlen] using h
end
end SwE
namespace SwK
open PySem PySem.Spec PyProof.Rows L2 SwE
/-- equal: the same scalar; the same object; lists, tuples of equal items; dicts of the same keys with equal values -/
def EqS (K : PySem.W.Frag) (H : Hp) (E : V → V → Prop) (x y : V) : Prop :=
  (∃ a b xs ys, x = .ref a ∧ y = .ref b ∧ SqL K H a xs ∧ SqL K H b ys ∧ Paired E xs ys) ∨
  (∃ a b xs ys, x = .ref a ∧ y = .ref b ∧ SqT K H a xs ∧ SqT K H b ys ∧ Paired E xs ys) ∨
  ∃ a b ks ls, x = .ref a ∧ y = .ref b ∧ Rd H a (.dK ks) ∧ Rd H b (.dK ls) ∧ ks.length = ls.length ∧ ∀ p ∈ ks, ∃ u, valV ls p.1 = some u ∧ E p.2 u
def EqX (K : PySem.W.Frag) (H : Hp) : Nat → V → V → Prop
  | 0 => fun _ _ => False
  | n + 1 => fun x y => (x = y ∧ flatB x = true) ∨ EqS K H (EqX K H n) x y
section
variable {X : Cx} {pins : List (Addr × Obj)} {σ : L2.St} {H : Hp} {s : Shared}
theorem eqS_run (I : Inv X pins σ H s) {A : Around} {F : V → V → Prop} (hu : A.units < cLine) (ih : ∀ x y v u, F x y → RelV x v → RelV y u → SeqAt.EqP X.prog X.w A.in1 s v u true) {x y : V} {v u : Value} (h : EqS X.K H F x y)
    (rx : RelV x v) (ry : RelV y u) (E Q : Value → Shared → Prop) :
    (Q (.bool true) s → wpAny (model X.prog X.w) A (richCompare .Eq v u) Q E s) ∧ (Q (.bool false) s → wpAny (model X.prog X.w) A (richCompare .NotEq v u) Q E s) := by
  rcases h with ⟨a, b, xs, ys, rfl, rfl, ha, hb, hp⟩ | ⟨a, b, xs, ys, rfl, rfl, ha, hb, hp⟩ | ⟨a, b, ks, ls, rfl, rfl, ha, hb, hl, hp⟩
  · cases (show v = Value.ref a from rx)
    cases (show u = Value.ref b from ry)
    obtain ⟨us, r1, p1, _⟩ := I.list ha
    obtain ⟨ws, r2, p2, _⟩ := I.list hb
    have hsz : us.toArray.size = ws.toArray.size := by
      rw [List.size_toArray, List.size_toArray, ← r1.length, ← r2.length]
      exact Paired.length hp
    have each : ∀ j (h1 : j < us.toArray.size) (h2 : j < ws.toArray.size), SeqAt.EqP X.prog X.w A.in1 s us.toArray[j] ws.toArray[j] true := fun j h1 h2 => by
      have k := L2.items_run ih hp r1 r2 j (by simpa using h1) (by simpa using h2)
      simpa using k
    refine ⟨fun q => ?_, fun q => rcListNe p1.isList p2.isList hsz hu each E Q q⟩
    refine SeqAt.rcP_lists (e := fun _ => true) p1.isList p2.isList hsz hu each E Q ?_
    rw [show ((List.range us.toArray.size).all fun _ => true) = true from List.all_eq_true.mpr fun _ _ => rfl]
    exact q
  · cases (show v = Value.ref a from rx)
    cases (show u = Value.ref b from ry)
    obtain ⟨us, r1, p1, _⟩ := I.tuple ha
    obtain ⟨ws, r2, p2, _⟩ := I.tuple hb
    have hsz : us.toArray.size = ws.toArray.size := by
      rw [List.size_toArray, List.size_toArray, ← r1.length, ← r2.length]
      exact Paired.length hp
    have each : ∀ j (h1 : j < us.toArray.size) (h2 : j < ws.toArray.size), SeqAt.EqP X.prog X.w A.in1 s us.toArray[j] ws.toArray[j] true := fun j h1 h2 => by
      have k := L2.items_run ih hp r1 r2 j (by simpa using h1) (by simpa using h2)
      simpa using k
    exact rcTup p1 p2 hsz hu each E Q
  · cases (show v = Value.ref a from rx)
    cases (show u = Value.ref b from ry)
    obtain ⟨_, ya, va, ra, da⟩ := (show ObjOk X.prog X.w H s.heap a (.dK ks) from ha.ok I.hok)
    obtain ⟨_, yb, vb, rb, db⟩ := (show ObjOk X.prog X.w H s.heap b (.dK ls) from hb.ok I.hok)
    have e : va.length = vb.length := by
      rw [← ra.length, ← rb.length]
      exact hl
    refine ⟨fun q => ?_, fun q => rcDictNe (knd := mixKind X.prog X.w) ya yb da db hu (fun _ => L2.hits_run ih rb ra hp) e E Q q⟩
    refine PySem.W.rcP_dicts (knd := mixKind X.prog X.w) (r := true) ya yb da db hu (fun _ => L2.hits_run ih rb ra hp) E Q ?_
    rw [show (va.length == vb.length && true) = true from by rw [e]; simp]
    exact q
theorem eqX_run (I : Inv X pins σ H s) : ∀ (n : Nat) (A : Around), A.units + n < cLine → ∀ (x y : V) (v u : Value), EqX X.K H n x y → RelV x v → RelV y u → SeqAt.EqP X.prog X.w A s v u true
  | 0, _, _, _, _, _, _, h, _, _ => (show False from h).elim
  | n + 1, A, hu, x, y, v, u, h, rx, ry => by
    rcases h with ⟨rfl, f⟩ | h
    · exact (eqAt_same rx ry f).eqP
    · have go := fun E Q => (eqS_run I (A := A) (by omega) (eqX_run I n A.in1 (by show A.units + 1 + n < cLine; omega)) h rx ry E Q).1
      obtain ⟨a, b, rfl, rfl⟩ : ∃ a b, x = .ref a ∧ y = .ref b := by
        rcases h with ⟨a, b, _, _, e1, e2, _⟩ | ⟨a, b, _, _, e1, e2, _⟩ | ⟨a, b, _, _, e1, e2, _⟩ <;> exact ⟨a, b, e1, e2⟩
      cases (show v = Value.ref a from rx)
      cases (show u = Value.ref b from ry)
      by_cases e : a = b
      · subst e
        exact (SeqAt.EqAt.same _).eqP
      · exact SeqAt.eqP_refs e go
end
section
variable {X : Cx}
/-- a == b, a != b of two lists, tuples or dicts that are equal -/
def rEqX (K : PySem.W.Frag) : R2 := fun x y H Q => ∃ n, n ≤ 60 ∧ EqS K H (EqX K H n) x y ∧ Q (.bl true) H
def rNeX (K : PySem.W.Frag) : R2 := fun x y H Q => ∃ n, n ≤ 60 ∧ EqS K H (EqX K H n) x y ∧ Q (.bl false) H
theorem op_eqX (hu : X.A.units + 64 < cLine) : OpR X (compareOp .Eq) (rEqX X.K) := by
  intro pins s σ H x y v u Q I rx ry h
  obtain ⟨n, hn, h, q⟩ := h
  exact (eqS_run I (A := X.A) (by omega) (eqX_run I n X.A.in1 (by show X.A.units + 1 + n < cLine; omega)) h rx ry _ _).1 ⟨.bl true, H, I, rfl, q⟩
theorem op_neX (hu : X.A.units + 64 < cLine) : OpR X (compareOp .NotEq) (rNeX X.K) := by
  intro pins s σ H x y v u Q I rx ry h
  obtain ⟨n, hn, h, q⟩ := h
  exact (eqS_run I (A := X.A) (by omega) (eqX_run I n X.A.in1 (by show X.A.units + 1 + n < cLine; omega)) h rx ry _ _).2 ⟨.bl false, H, I, rfl, q⟩
/-- xs == [] -/
def rEqNil (K : PySem.W.Frag) : R2 := fun x y H Q => ∃ a b xs, x = .ref a ∧ y = .ref b ∧ SqL K H a xs ∧ SqL K H b [] ∧ Q (.bl xs.isEmpty) H
theorem op_eqNil (hu : X.A.units + 64 < cLine) : OpR X (compareOp .Eq) (rEqNil X.K) := by
  intro pins s σ H x y v u Q I rx ry h
  obtain ⟨a, b, xs, rfl, rfl, ha, hb, q⟩ := h
  cases (show v = Value.ref a from rx)
  cases (show u = Value.ref b from ry)
  obtain ⟨us, r1, p1, _⟩ := I.list ha
  obtain ⟨ws, r2, p2, _⟩ := I.list hb
  cases r2
  cases xs with
  | nil =>
    cases r1
    refine SeqAt.rcP_lists (e := fun _ => true) p1.isList p2.isList rfl (by omega) (fun j h1 _ => absurd h1 (Nat.not_lt_zero j)) _ _ ?_
    exact ⟨.bl true, H, I, rfl, q⟩
  | cons z zs =>
    have hne : (us.toArray.size != ([] : List Value).toArray.size) = true := by
      rw [List.size_toArray, ← r1.length]
      rfl
    exact SeqAt.RcAt.lists_lengths p1.isList p2.isList hne (by omega) X.prog X.w _ _ ⟨.bl false, H, I, rfl, q⟩
end
end SwK
set_option maxHeartbeats 4000000
/-! further rules: != of one instance; text times int; attributes as targets; enumerate(tuple) -/
namespace SwK
open PySem PySem.Spec PyProof.Rows L2
/-! ### x != x of an instance without == and != of its own -/
theorem ba2 {a b : Bool} (h : (a && b) = true) : a = true ∧ b = true := Bool.and_eq_true_iff.mp h
theorem cmpB_ok {K : PySem.W.Frag} {h : Heap} {C x : Addr} {o : Obj} (X : K.In h) (c : cmpB K C = true) (hx : h.get? x = some o) (hc : o.cls = .ref C) : h.CmpInst x C [.type "object"] := by
  unfold cmpB at c
  split at c
  · rename_i t dd cd sl hK
    obtain ⟨c1, c⟩ := ba2 c
    obtain ⟨c2, c⟩ := ba2 c
    obtain ⟨c3, c⟩ := ba2 c
    obtain ⟨c4, c5⟩ := ba2 c
    have ht : t = "type" := of_decide_eq_true c1
    subst ht
    split at c3
    · rename_i a ob hm
      obtain ⟨d1, d2⟩ := ba2 c3
      have ea : a = C := of_decide_eq_true d1
      have eo : ob = "object" := of_decide_eq_true d2
      subst ea eo
      split at c4
      · rename_i k0 k1 k2 k3 nid k5 hsl
        split at c5
        · rename_i oc od es ep osl hN
          obtain ⟨e1, e⟩ := ba2 c5
          obtain ⟨e2, e3⟩ := ba2 e
          obtain ⟨nm, bs, mro, ns, qn, hd, sn, sub, ab, col, del⟩ := cd
          simp only at hm hN c2
          subst hm
          have hdel : del = false := by simpa using c2
          subst hdel
          have hsl2 : sl = #[k0, k1, k2, k3, some (.builtin nid), k5] := by
            rw [← Array.toList_inj]
            exact hsl
          subst hsl2
          have hns : h.isNs ns = true := by
            unfold Heap.isNs
            rw [X _ _ hN]
            exact e1
          have n1 : h.nsMap ns "__eq__" = none := by
            unfold Heap.nsMap
            rw [X _ _ hN]
            simpa using e2
          have n2 : h.nsMap ns "__ne__" = none := by
            unfold Heap.nsMap
            rw [X _ _ hN]
            simpa using e3
          exact ⟨o, nm, qn, ns, bs, hd, sn, sub, ab, col, dd, k0, k1, k2, k3, k5, nid, h.nsMap ns, hx, hc, X _ _ hK, Heap.Ns.of_isNs hns, n1, n2⟩
        · cases c5
      · cases c4
    · cases c3
  · cases c
section
variable {X : Cx}
def rNeSelf (C : Addr) : R2 := fun x y H Q => ∃ a dx fs, x = .ref a ∧ y = .ref a ∧ H a = some (.ins C dx fs) ∧ Q (.bl false) H
theorem op_neSelf {C : Addr} (c : cmpB X.K C = true) (hu : X.A.units + 64 < cLine) : OpR X (compareOp .NotEq) (rNeSelf C) := by
  intro pins s σ H x y v u Q I rx ry h
  obtain ⟨a, dx, fs, rfl, rfl, ha, q⟩ := h
  cases (show v = Value.ref a from rx)
  cases (show u = Value.ref a from ry)
  obtain ⟨_, _, _, e, _⟩ := (show ObjOk X.prog X.w H s.heap a (.ins C dx fs) from I.hok a _ ha)
  obtain ⟨hp, g, d, tk, os⟩ := s
  exact compareOp_ne_same PySem.F.cmp_object (cmpB_ok I.kIn c e rfl) (by omega) ⟨.bl false, H, I, rfl, q⟩
/-! ### text times int, once or not at all -/
def rRepS : R2 := fun x y H Q => ∃ z n, x = .str z ∧ y = .int n ∧ ((n = 0 ∧ Q (.str Str.empty) H) ∨ (n = 1 ∧ Q (.str z) H))
theorem op_rep_str : OpR X (binaryOp .Mult) rRepS := by
  intro pins s σ H x y v u Q I rx ry h
  obtain ⟨z, n, rfl, rfl, h⟩ := h
  obtain ⟨t, rfl⟩ := (show ∃ t, v = Value.str z t from rx)
  obtain ⟨t', rfl⟩ := (show ∃ t', u = Value.int n t' from ry)
  rcases h with ⟨rfl, q⟩ | ⟨rfl, q⟩
  · exact PySem.P.mul_str_none (by omega) (by omega) ⟨.str Str.empty, H, I.tok _, ⟨_, rfl⟩, q⟩
  · refine PySem.P.mul_str (by decide) (fun _ h => ?_) (fun _ h => ?_) ?_
    · exact absurd h (by simp)
    · exact absurd h (by simp)
    · exact ⟨.str z, H, I, ⟨_, rfl⟩, q⟩
/-! ### o.f as a target -/
def gFld (K : PySem.W.Frag) (ta : TE) (f : Str) : TG := fun v σ H Q => ta σ H fun x H2 => ∃ a C dx fs, x = .ref a ∧ H2 a = some (.ins C dx fs) ∧ Cls K C ∧ NoAttr K C f ∧ fs.length < 1000 ∧ Q σ (upd H2 a (.ins C dx (putF f v fs)))
theorem pg_fld {o : Expr} {f : Str} {pos : Pos} {ta : TE} (ha : PE X o ta) : PG X (.Attribute o f pos) (gFld X.K ta f) := by
  refine ⟨fun pins s σ H v u Q I r h => ?_⟩
  rw [PySem.assign_Attribute]
  refine wpAny_bind (wpAny_holding (thn (ha.run pins s σ H _ I h) fun ov s1 ⟨x, H1, I1, rx, a, C, dx, fs, ex, ea, c, n, l, q⟩ => ?_))
  subst ex
  obtain rfl : ov = Value.ref a := rx
  refine wpAny_bind (wpAny_standAt ?_)
  refine wpAny_bind (wpAny_holding (setattr_ok I1 ea c n l r fun s2 I2 => ?_))
  exact wpAny_release ⟨σ, _, I2, q⟩
end
/-! ### enumerate(tuple) -/
set_option maxHeartbeats 1000000 in
theorem enumNewT (l : Addr) (items : Array Value) :
    Meets (Builtin.«enumerate.__new__» ⟨[.type "enumerate", .ref l], []⟩) (fun _ R s => s.heap.IsTuple l items ∧
      R (.ok (.ret (.ref (s.heap.push { cls := .type "tuple_iterator", data := .fields #[.ref l, .int 0 0] }).objs.size)))
        { s with heap := (s.heap.push { cls := .type "tuple_iterator", data := .fields #[.ref l, .int 0 0] }).push { cls := .type "enumerate", data := .fields #[.none, .bool false, .ref s.heap.objs.size, rawInt 0, .none, .none] } }) :=
  .of_wp fun prog w A R s h => by
    obtain ⟨hp, g, d, tk, os⟩ := s
    obtain ⟨h1, h⟩ := h
    have hsub := sub_enumerate
    have q1 : ∀ {A' : Around} {E : Value → Shared → Prop} {Q : Value → Shared → Prop}, Q (.ref hp.objs.size) ⟨hp.push { cls := .type "tuple_iterator", data := .fields #[.ref l, .int 0 0] }, g, d, tk, os⟩ → wpAny (model prog w) A' (pyIter (.ref l)) Q E ⟨hp, g, d, tk, os⟩ :=
      fun q => wpAny_pyIter_tuple h1 q
    wp_walk using q1
    refine wpAny_stack_any fun st => wpAny_pure ?_
    split
    · rename_i c _ _ _ _ _
      cases (c == Value.type "enumerate")
      · wp_walk using q1
        exact ⟨_, rfl, h⟩
      · wp_walk using q1
        exact ⟨_, rfl, h⟩
    · wp_walk using q1
      exact ⟨_, rfl, h⟩
section
variable {prog : Program} {w : World} {A : Around} {E : Value → Shared → Prop} {s : Shared}
theorem enumCallT {l : Addr} {items : Array Value} {Q : Value → Shared → Prop} (hL : s.heap.IsTuple l items)
    (h : ∀ h', IsEnum h' (s.heap.objs.size + 1) s.heap.objs.size 0 .none → h'.IsTupleIter s.heap.objs.size l 0 → h'.objs.size = s.heap.objs.size + 2 →
      (∀ b o, s.heap.get? b = some o → h'.get? b = some o) → Q (.ref (s.heap.objs.size + 1)) { s with heap := h' }) :
    wpAny (model prog w) A (call (.type "enumerate") [.ref l]) Q E s := by
  refine callType_new F.called_enumerate (by decide) (F.typeCall_enumerate_1 _) (F.newCall_enumerate_1 _) (fun obj => F.args_object_init_2 obj _) F.entry_enumerate_new
    (enumNewT l items) ⟨hL, ?_⟩
  have hz : (s.heap.push { cls := .type "tuple_iterator", data := .fields #[.ref l, .int 0 0] }).objs.size = s.heap.objs.size + 1 := Heap.size_push ..
  show _ ∧ _
  rw [hz]
  have he : IsEnum ((s.heap.push { cls := .type "tuple_iterator", data := .fields #[.ref l, .int 0 0] }).push
      { cls := .type "enumerate", data := .fields #[.none, .bool false, .ref s.heap.objs.size, rawInt 0, .none, .none] }) (s.heap.objs.size + 1) s.heap.objs.size 0 .none := by
    have := Heap.get?_push_size (s.heap.push { cls := .type "tuple_iterator", data := .fields #[.ref l, .int 0 0] })
      (o := { cls := .type "enumerate", data := .fields #[.none, .bool false, .ref s.heap.objs.size, rawInt 0, .none, .none] }) rfl
    rw [hz] at this
    exact this
  refine ⟨⟨_, he, rfl⟩, h _ he ⟨_, Heap.get?_push_of_some _ (Heap.get?_push_size _ rfl), rfl, rfl⟩ (by rw [Heap.size_push, hz]) fun b o x => Heap.get?_push_of_some _ (Heap.get?_push_of_some _ x)⟩
end
def Ity (K : PySem.W.Frag) (a : Addr) : It :=
  ⟨fun i H => ∃ (xs : List V) (x : V), SqT K H a xs ∧ xs[i]? = some x, fun i H v H' => ∃ T x, v = .ref T ∧ H T = none ∧ H' = upd H T (.tup [.int (i : Nat), x]) ∧ ∀ xs, SqT K H a xs → xs[i]? = some x, fun i H => ∃ xs : List V, SqT K H a xs ∧ xs.length ≤ i⟩
theorem turn_enumT {P : Program} {w : World} {K : PySem.W.Frag} {elts : List Expr} {kk : Nat} {tpos : Pos} (a e it : Addr) :
    Turn P w K (.Tuple elts kk tpos) (Ity K a) [e, it] e (fun i h => (∃ old, IsEnum h e it ((i : Nat) : Int) old) ∧ h.IsTupleIter it a i ∧ e ≠ it) where
  mem := by simp
  obj := fun i h st b hb => by
    obtain ⟨⟨old, he⟩, ⟨o, ho, hc, hd⟩, _⟩ := st
    have e' : b = e ∨ b = it := by simpa using hb
    rcases e' with z | z
    · rw [z]
      exact ⟨_, he, fun v q => nomatch q⟩
    · rw [z]
      exact ⟨o, ho, fun v q => by rw [hd] at q; cases q⟩
  keep := fun i h h' st k => by
    obtain ⟨⟨old, he⟩, hi, hne⟩ := st
    exact ⟨⟨old, k e (by simp) _ he⟩, hi.at fun o q => k it (by simp) o q, hne⟩
  item := by
    intro X hP hw hK hc i pins s σ H E I hf st hg
    subst hP hw hK
    obtain ⟨⟨old, he⟩, hit, hne⟩ := st
    obtain ⟨xs, x, hq, hx⟩ := hg
    obtain ⟨its, rv, p, hz⟩ := I.tuple hq
    obtain ⟨u, hu, ru⟩ := rv.get hx
    have hel : e < s.heap.objs.size := Heap.lt_size he
    have hil : it < s.heap.objs.size := by
      obtain ⟨_, q, _⟩ := hit
      exact Heap.lt_size q
    have nit : a ≠ it := by
      obtain ⟨o1, q1, c1, _⟩ := hit
      obtain ⟨o2, q2, c2, _⟩ := p
      intro z
      rw [z, q1] at q2
      cases q2
      rw [c1] at c2
      exact absurd c2 (by decide)
    have nae : a ≠ e := by
      obtain ⟨o2, q2, c2, _⟩ := p
      intro z
      rw [z] at q2
      rw [show s.heap.get? e = _ from he] at q2
      cases q2
      have c3 : Value.type "enumerate" = Value.type "tuple" := c2
      exact absurd c3 (by decide)
    have hlt : i < its.toArray.size := by
      have := (List.getElem?_eq_some_iff.mp hu).1
      simpa using this
    refine wpAny_pyNext_enum_itemD (Draws.tuple (A := X.A.in1) (I.ok.hd hc) it a nit its.toArray) he ⟨hit, p⟩ hlt hne (by simp [hne, Ne.symm nae]) fun x' h' tk hx' ho hst hT hsz hk => ?_
    have ex : x' = u := by
      have h1 : its[i]? = some x' := by simpa using hx'
      exact Option.some.inj (h1.symm.trans hu)
    subst ex
    refine ⟨_, rfl, wpAny_letOwnedTupleGo_enum (s := { s with heap := h', toks := tk + 1 }) ho fun h'' he' sb => ?_⟩
    have hT2 : h''.get? s.heap.objs.size = some { cls := .type "tuple", data := .seq #[.int i tk, x'] } := (sb.2 _ (Nat.ne_of_gt hel)).trans hT
    have new : ObjOk X.prog X.w (upd H s.heap.objs.size (.tup [.int (i : Nat), x])) h'' s.heap.objs.size (.tup [.int (i : Nat), x]) :=
      ⟨by show 2 ≤ sizeLine; decide, [.int i tk, x'], .cons ⟨_, rfl⟩ (.cons ru .nil), ⟨_, hT2, rfl, _, rfl⟩⟩
    have I1 : Inv X pins σ (upd H s.heap.objs.size (.tup [.int (i : Nat), x])) { s with heap := h'', toks := tk + 1 } :=
      I.turnedNew (ch := [e, it]) (fun b ob hb q => (sb.2 b (fun z => hb (by simp [z]))).trans (hk b ob (fun z => hb (by simp [z])) (fun z => hb (by simp [z])) q)) hf (Nat.le_refl _) new
    refine ⟨.ref s.heap.objs.size, _, I1, rfl, ⟨_, x, rfl, I.hok.fresh (Nat.le_refl _), rfl, fun ys hy => by rw [I.tuple_inj hy hq]; exact hx⟩, ⟨⟨x', ?_⟩, hst.1.at fun o q => (sb.2 it (Ne.symm hne)).trans q, hne⟩, fun b hb => ?_⟩
    · have e1 : ((i + 1 : Nat) : Int) = (i : Int) + 1 := by omega
      rw [e1]
      exact he'
    · have hb' : b < s.heap.objs.size := by
        have e' : b = e ∨ b = it := by simpa using hb
        rcases e' with z | z
        · rw [z]
          exact hel
        · rw [z]
          exact hil
      rw [upd_ne (Nat.ne_of_lt hb')]
      exact (hf b hb).1
  done := by
    intro X hP hw hK hc i pins s σ H E I hf st hg
    subst hP hw hK
    obtain ⟨⟨old, he⟩, hit, hne⟩ := st
    obtain ⟨xs, hq, hx⟩ := hg
    obtain ⟨its, rv, p, hz⟩ := I.tuple hq
    obtain ⟨f0, f1, f2, f3, f4, f5⟩ := hf it (by simp)
    have hl := rv.length
    have nit : a ≠ it := by
      obtain ⟨o1, q1, c1, _⟩ := hit
      obtain ⟨o2, q2, c2, _⟩ := p
      intro z
      rw [z, q1] at q2
      cases q2
      rw [c1] at c2
      exact absurd c2 (by decide)
    have D : Draws X.prog X.w X.A.in1 it [it, a] i (fun j v => its.toArray[j]? = some v ∧ False) (fun j h => j = i ∧ h.IsTupleIter it a i ∧ h.IsTuple a its.toArray) := {
      live := fun _ _ st => let ⟨o, ho, _⟩ := st.2.1; ⟨o, ho⟩
      frame := fun _ _ _ st hk => ⟨st.1, st.2.1.at fun o e => hk it (by simp) o e, st.2.2.at fun o e => hk a (by simp) o e⟩
      item := fun j s Q E hi st hQ => absurd hi (by rw [st.1]; exact Nat.lt_irrefl _)
      done := fun s Q E st hE => wpAny_nextOf_tuple_end (I.ok.hd hc) st.2.1 st.2.2 (by simp; omega) hE }
    exact wpAny_pyNext_enum_endD D he ⟨rfl, hit, p⟩ fun h' eb => ⟨rfl, I.turned (t' := s.toks) (fun b o hb q => eb b o hb q) f0 f1 f3 f4 f5⟩
  self := fun A i s Q E st h => by
    obtain ⟨⟨_, he⟩, _⟩ := st
    exact wpAny_pyIter_enum he h
def iEnumT (K : PySem.W.Frag) (ta : TA) : TI := fun σ H R => ta σ H fun vs H1 => ∃ a xs, vs = [.ref a] ∧ SqT K H1 a xs ∧ R (Ity K a) H1
theorem pi_enumT {X : Cx} {e : Expr} {ta : TA} {p pos tpos : Pos} {elts : List Expr} {kk : Nat} (hg : Gl X "enumerate") (hm : X.mg "enumerate" = none) (ha : PA X [e] ta) (hs : starEach [e] X.env = [(false, eval e X.env)] := by rfl) :
    PI X (.Tuple elts kk tpos) (.Call (.Name "enumerate" p) [e] [] pos) (iEnumT X.K ta) := by
  refine ⟨fun pins s σ H R I h => ?_⟩
  refine Call_ (ld_blt I hg hm boot_enumerate (PyProof.Rows.callWith_type1 (thn (ha.run pos pins s σ H _ I h) fun us s1 ⟨vs, H1, I1, r1, q1⟩ => ?_) hs rfl))
  obtain ⟨a, xs, ex, hq, q⟩ := q1
  subst ex
  cases r1 with
  | cons r rr =>
    cases rr
    cases r
    obtain ⟨its, rv, p', hz⟩ := I1.tuple hq
    refine enumCallT p' fun h' he hit hsz hk => wpAny_pyIter_enum he ?_
    have I2 : Inv X pins σ H1 { s1 with heap := h' } := I1.kept (t' := s1.toks) hk
    refine ⟨s1.heap.objs.size + 1, [s1.heap.objs.size + 1, s1.heap.objs.size], _, _, H1, rfl, I2, turn_enumT a (s1.heap.objs.size + 1) s1.heap.objs.size, ⟨⟨.none, he⟩, hit, Nat.succ_ne_self _⟩, fun b hb => ?_, q⟩
    have e' : b = s1.heap.objs.size + 1 ∨ b = s1.heap.objs.size := by simpa using hb
    have hle : s1.heap.objs.size ≤ b := by
      rcases e' with z | z
      · rw [z]
        exact Nat.le_add_right _ _
      · rw [z]
        exact Nat.le_refl _
    exact I1.fpOk hle (I1.hok.fresh hle)
theorem walk_enumT {K : PySem.W.Frag} {a : Addr} {xs : List V} : Walk (Ity K a) xs.length (fun H => SqT K H a xs) (YPair (fun i => some (.int (i : Nat))) (fun i => xs[i]?)) := by
  refine ⟨fun i _ hi q => ⟨xs, xs[i], q, by simp [hi]⟩, fun _ q => ⟨xs, q, Nat.le_refl _⟩, fun i H v H' _ q y => ?_⟩
  obtain ⟨T, x, h1, h2, h3, h4⟩ := y
  exact ⟨T, .int (i : Nat), x, h1, h2, h3, rfl, h4 xs q⟩
end SwK
set_option maxHeartbeats 4000000
/-! further rules: tuples known to have no dict; dict(tuple of pairs); d.update(e) -/
namespace SwK
open PySem PySem.Spec PyProof.Rows L2
section
variable {X : Cx}
/-- tuple(list): the new tuple has no dict -/
theorem call_tupleP : CallR X (.type "tuple") (fun xs H Q => ∃ p ys, xs = [.ref p] ∧ SqL X.K H p ys ∧ ∀ l o, H l = none → o.dict = none → Q (.ref l) (upd H l (.frz o (.tup ys)))) := by
  intro pins s σ H xs us Q I r h
  obtain ⟨p, ys, rfl, hq, q⟩ := h
  obtain ⟨u, rfl, rx⟩ := vals1 r
  cases rx
  obtain ⟨its, r', pl, hz⟩ := I.list hq
  have hlen := r'.length
  refine call_tuple_list pl.isList (fun h' kp => ?_) (by simp only [List.size_toArray] <;> omega)
  have I1 : Inv X pins σ H { s with heap := h' } := I.kept (t' := s.toks) kp
  have I2 : Inv X pins σ (upd H h'.objs.size (.frz { cls := .type "tuple", data := .seq its.toArray } (.tup ys))) { s with heap := h'.push { cls := .type "tuple", data := .seq its.toArray } } :=
    I1.laid (t' := s.toks) (fun b o e => Heap.get?_push_of_some _ e) (Nat.le_refl _)
      (show ObjOk X.prog X.w _ _ _ (.frz _ (.tup ys)) from ⟨Heap.get?_push_size _ rfl, hz, its, r', IsTup.new _ _⟩)
  exact ⟨.ref h'.objs.size, _, I2, rfl, q _ _ (I1.hok.fresh (Nat.le_refl _)) rfl⟩
/-- dict(t) of a tuple of pairs -/
theorem call_dictT (hcalm : X.calm = true) : CallR X (.type "dict") (fun xs H Q => ∃ (a : Addr) (o : Obj) (ps : List Addr) (kvs : List (Key × V)), xs = [.ref a] ∧ H a = some (.frz o (.tup (ps.map V.ref))) ∧ o.dict = none ∧
    Paired (fun p kv => SqT X.K H p [kV kv.1, kv.2]) ps kvs ∧ ∀ p, H p = none → Q (.ref p) (upd H p (.dK (mergeK [] kvs)))) := by
  intro pins s σ H xs us Q I r q
  obtain ⟨a, o, ps, kvs, ex, hq, hod, hp, q⟩ := q
  subst ex
  obtain ⟨u, eu, rx⟩ := vals1 r
  subst eu
  cases rx
  obtain ⟨ho, hz, its, rv, o2, ho2, hc, n, hdat⟩ := (show ObjOk X.prog X.w H s.heap a (.frz o (.tup (ps.map V.ref))) from I.hok a _ hq)
  rw [ho] at ho2
  cases ho2
  have ei := refs_at rv
  subst ei
  rw [List.length_map] at hz
  obtain ⟨prs, rel, hl, hpr⟩ := pairs_of I hp
  have key : ∀ j (q' : Key × Value), prs[j]? = some q' → ∃ u : Value, PairAt s.heap (ps.getD j 0) u q'.2 ∧ keyIs q'.1 u = true ∧ (ps.map Value.ref).toArray[j]? = some (.ref (ps.getD j 0)) := fun j q' e => by
    obtain ⟨b, u, e1, e2, e3⟩ := hpr j q' e
    have eb : ps.getD j 0 = b := by rw [List.getD_eq_getElem?_getD, e1]; rfl
    rw [eb]
    exact ⟨u, .inl e2, e3, by simp [e1]⟩
  have fk : ∀ n, n ≤ prs.length → ∃ vs : List (Value × Value), vs.length = n ∧ ∀ j (q' : Key × Value), j < n → prs[j]? = some q' → ∃ u : Value, vs[j]? = some (u, q'.2) ∧ PairAt s.heap (ps.getD j 0) u q'.2 ∧ keyIs q'.1 u = true := by
    intro n
    induction n with
    | zero => exact fun _ => ⟨[], rfl, fun j q' h _ => absurd h (Nat.not_lt_zero j)⟩
    | succ n ih =>
      intro hn
      obtain ⟨vs, l1, h1⟩ := ih (by omega)
      obtain ⟨q', eq'⟩ : ∃ q', prs[n]? = some q' := ⟨prs[n]'(by omega), by simp⟩
      obtain ⟨u, p1, p2, p3⟩ := key n q' eq'
      refine ⟨vs ++ [(u, q'.2)], by simp [l1], fun j z hj e => ?_⟩
      by_cases hjn : j < n
      · obtain ⟨u', e1, e2, e3⟩ := h1 j z hjn e
        exact ⟨u', by rw [List.getElem?_append_left (by omega)]; exact e1, e2, e3⟩
      · have hj2 : j = n := by omega
        subst hj2
        rw [eq'] at e
        cases e
        exact ⟨u, by rw [List.getElem?_append_right (by omega)]; simp [l1], p1, p2⟩
  obtain ⟨vs, l1, hvs⟩ := fk prs.length (Nat.le_refl _)
  have ok : PlainSeq "tuple" s.heap a (ps.map Value.ref).toArray ∧ PairItems s.heap (ps.map Value.ref).toArray (fun j => ps.getD j 0) vs := by
    refine ⟨⟨o, n, ho, hc, hod, hdat⟩, by simp [l1, hl], fun j k v e => ?_⟩
    have hj : j < prs.length := by
      have := (List.getElem?_eq_some_iff.mp e).1
      omega
    obtain ⟨q', eq'⟩ : ∃ q', prs[j]? = some q' := ⟨prs[j], by simp⟩
    obtain ⟨u', e1, e2, e3⟩ := hvs j q' hj eq'
    rw [e] at e1
    cases e1
    obtain ⟨_, _, _, p3⟩ := key j q' eq'
    exact ⟨p3, e2⟩
  refine PySem.call_dict_pairs (knd := mixKind X.prog X.w) (kvs := prs) (PairArg.tuple a (ps.map Value.ref).toArray (fun j => ps.getD j 0) vs) (I.ok.hd hcalm) ok ⟨l1.symm, fun i key v e => ?_⟩ (by rw [l1, hl]; exact hz) fun h' tk hd' k => ?_
  · have hj : i < prs.length := by
      have := (List.getElem?_eq_some_iff.mp e).1
      omega
    obtain ⟨q', eq'⟩ : ∃ q', prs[i]? = some q' := ⟨prs[i], by simp⟩
    obtain ⟨u', e1, e2, e3⟩ := hvs i q' hj eq'
    rw [show vs[i]? = some (key, v) from e] at e1
    cases e1
    exact ⟨q'.1, eq', e3⟩
  · have hm : (s.heap.objs.size == sysModules) = false := beq_eq_false_iff_ne.mpr (Nat.ne_of_gt I.big)
    have hlen : (mergeK [] kvs).length ≤ sizeLine := by
      refine Nat.le_trans (length_mergeK kvs []) ?_
      rw [List.length_nil, Nat.zero_add, rel.length, hl]
      exact hz
    exact ⟨.ref s.heap.objs.size, upd H s.heap.objs.size (.dK (mergeK [] kvs)), I.laid (t' := tk) (fun b ob e => k b ob (by simp) e) (Nat.le_refl _) (show ObjOk X.prog X.w _ _ _ (.dK (mergeK [] kvs)) from ⟨hlen, hm, merged [] prs, KV.merge rel .nil, hd'⟩), rfl, q _ (I.hok.fresh (Nat.le_refl _))⟩
/-- d.update(e), two dicts -/
def rUpdate : V → List V → Hp → VK → Prop := fun x vs H Q => ∃ (a b : Addr) (ks ls : List (Key × V)), x = .ref a ∧ vs = [.ref b] ∧ a ≠ b ∧ H a = some (.dK ks) ∧ Rd H b (.dK ls) ∧ ks.length + ls.length ≤ sizeLine ∧ Q .non (upd H a (.dK (mergeK ks ls)))
theorem mt_update : MtR X "dict.update" rUpdate := by
  intro pins s σ H x vs v us Q I rx rv h
  obtain ⟨a, b, ks, ls, ex, ev, hne, ha, hb, hsz, q⟩ := h
  subst ex ev
  obtain rfl : v = Value.ref a := rx
  obtain ⟨u, rfl, ru⟩ := vals1 rv
  obtain rfl : u = Value.ref b := ru
  obtain ⟨z1, lo1, va, ra, da⟩ := (show ObjOk X.prog X.w H s.heap a (.dK ks) from I.hok a _ ha)
  obtain ⟨z2, lo2, vb, rb, db⟩ := (show ObjOk X.prog X.w H s.heap b (.dK ls) from hb.ok I.hok)
  refine call_meetsIn PySem.F.slot_dict_update da.typeIs PySem.F.entry_dict_update (PySem.F.args_dict_update_2 _ _) (meets_dict_update (mixKind X.prog X.w) a b hne lo2)
    ⟨va, vb, da, db, by rw [← ra.length, ← rb.length]; exact hsz, fun h' hd' _ hs => ?_⟩
  have hlen : (mergeK ks ls).length ≤ sizeLine := Nat.le_trans (length_mergeK ls ks) hsz
  refine ⟨.non, _, I.write (e := a) (o := .dK (mergeK ks ls)) (t' := s.toks) (by rw [ha]; trivial) (.inl rfl) (fun c u hc e => (hs.2 c hc).trans e) ?_ (show ObjOk X.prog X.w _ _ _ (.dK (mergeK ks ls)) from ⟨hlen, lo1, _, KV.merge rb ra, hd'⟩), rfl, q⟩
  obtain ⟨o, _, _, e, _⟩ := hd'
  exact ⟨o, e⟩
end
end SwK
set_option maxHeartbeats 4000000
/-! makes as data; kinds, values, terms, what terms come to -/
namespace SwK
open PySem PySem.Spec PyProof.Rows L2
/-! ### lists of pairs by names -/
section
variable {α : Type}
def lkE (l : List (Str × α)) (x : Str) : Option α := (l.find? fun p => decide (p.1 = x)).map (·.2)
def putE (l : List (Str × α)) (x : Str) (d : α) : List (Str × α) :=
  if (l.any fun p => decide (p.1 = x)) = true then l.map (fun p => if p.1 = x then (p.1, d) else p) else l ++ [(x, d)]
theorem lkE_nil {x : Str} : lkE ([] : List (Str × α)) x = none := rfl
theorem lkE_cons (p : Str × α) (l : List (Str × α)) (x : Str) : lkE (p :: l) x = if p.1 = x then some p.2 else lkE l x := by
  unfold lkE
  rw [List.find?_cons]
  by_cases h : p.1 = x
  · simp [h]
  · simp [h]
theorem lkE_mem {l : List (Str × α)} {x : Str} {d : α} (h : lkE l x = some d) : (x, d) ∈ l := by
  induction l with
  | nil => simp [lkE_nil] at h
  | cons p l ih =>
    rw [lkE_cons] at h
    by_cases e : p.1 = x
    · rw [if_pos e] at h
      cases h
      subst e
      exact List.mem_cons_self
    · rw [if_neg e] at h
      exact List.mem_cons_of_mem _ (ih h)
theorem lkE_of_mem {l : List (Str × α)} {x : Str} {d : α} (hn : (l.map (·.1)).Nodup) (h : (x, d) ∈ l) : lkE l x = some d := by
  induction l with
  | nil => cases h
  | cons p l ih =>
    rw [List.map_cons, List.nodup_cons] at hn
    rw [lkE_cons]
    rcases List.mem_cons.mp h with e | h
    · rw [← e, if_pos rfl]
    · rw [if_neg, ih hn.2 h]
      intro e
      exact hn.1 (List.mem_map.mpr ⟨_, h, e.symm⟩)
theorem lkE_none {l : List (Str × α)} {x : Str} (h : ¬ x ∈ l.map (·.1)) : lkE l x = none := by
  induction l with
  | nil => rfl
  | cons p l ih =>
    rw [lkE_cons, if_neg (fun e => h (by rw [List.map_cons, e]; exact List.mem_cons_self))]
    exact ih fun m => h (by rw [List.map_cons]; exact List.mem_cons_of_mem _ m)
theorem lkE_some {l : List (Str × α)} {x : Str} (h : x ∈ l.map (·.1)) : ∃ d, lkE l x = some d := by
  induction l with
  | nil => cases h
  | cons p l ih =>
    rw [lkE_cons]
    by_cases e : p.1 = x
    · exact ⟨p.2, if_pos e⟩
    · rw [if_neg e]
      rw [List.map_cons] at h
      rcases List.mem_cons.mp h with z | z
      · exact absurd z.symm e
      · exact ih z
theorem lkE_any (l : List (Str × α)) (x : Str) : (l.any fun p => decide (p.1 = x)) = (lkE l x).isSome := by
  induction l with
  | nil => rfl
  | cons p l ih =>
    rw [List.any_cons, lkE_cons, ih]
    by_cases e : p.1 = x <;> simp [e]
theorem putE_keys {l : List (Str × α)} {x : Str} (d : α) (h : x ∈ l.map (·.1)) : (putE l x d).map (·.1) = l.map (·.1) := by
  obtain ⟨z, hz⟩ := lkE_some h
  unfold putE
  rw [lkE_any, hz, if_pos (by rfl), List.map_map]
  refine List.map_congr_left fun p _ => ?_
  show (if p.1 = x then (p.1, d) else p).1 = p.1
  split <;> rfl
theorem putE_new {l : List (Str × α)} {x : Str} (d : α) (h : ¬ x ∈ l.map (·.1)) : putE l x d = l ++ [(x, d)] := by
  unfold putE
  rw [lkE_any, lkE_none h]
  exact if_neg Bool.false_ne_true
theorem lkE_append {l m : List (Str × α)} {x : Str} : lkE (l ++ m) x = (lkE l x).or (lkE m x) := by
  induction l with
  | nil => rfl
  | cons p l ih =>
    rw [List.cons_append, lkE_cons, lkE_cons, ih]
    by_cases e : p.1 = x <;> simp [e]
theorem lkE_put (l : List (Str × α)) (x y : Str) (d : α) : lkE (putE l x d) y = if x = y then some d else lkE l y := by
  by_cases h : x ∈ l.map (·.1)
  · obtain ⟨z, hz⟩ := lkE_some h
    unfold putE
    rw [lkE_any, hz, if_pos (by rfl)]
    clear hz
    induction l with
    | nil => cases h
    | cons p l ih =>
      rw [List.map_cons, lkE_cons, lkE_cons]
      by_cases e : p.1 = x
      · rw [if_pos e]
        by_cases exy : x = y
        · rw [if_pos exy, if_pos (show (p.1, d).1 = y from e.trans exy)]
        · rw [if_neg exy, if_neg (fun q => exy (e.symm.trans q)), if_neg (fun q => exy (e.symm.trans q))]
          by_cases h2 : x ∈ l.map (·.1)
          · rw [ih h2, if_neg exy]
          · have e2 : l.map (fun p => if p.1 = x then (p.1, d) else p) = l := by
              conv => rhs; rw [← List.map_id l]
              refine List.map_congr_left fun q hq => ?_
              rw [if_neg (fun z => h2 (List.mem_map.mpr ⟨q, hq, z⟩))]
              rfl
            rw [e2]
      · rw [if_neg e]
        have h2 : x ∈ l.map (·.1) := by
          rcases List.mem_cons.mp h with z | z
          · exact absurd z.symm e
          · exact z
        by_cases e3 : p.1 = y
        · rw [if_pos e3, if_pos e3, if_neg (fun q => e (e3.trans q.symm))]
        · rw [if_neg e3, if_neg e3, ih h2]
  · rw [putE_new d h, lkE_append, lkE_cons, lkE_nil]
    by_cases exy : x = y
    · subst exy
      rw [lkE_none h, if_pos rfl]
      simp
    · rw [if_neg exy]
      simp [exy]
end
/-! ### makes -/
structure Kd where
  name : Str
  alt : Bool
  parts : List (Str × Str)
def pairD (p : Str × Str) : Da := .tup [.str p.1, .str p.2]
def partsD (ps : List (Str × Str)) : Da := .pt (ps.map pairD)
def sortS : Bool → Str
  | true => "alt"
  | false => "rec"
def Kd.d (k : Kd) : Da := .tup [.str k.name, .str (sortS k.alt), partsD k.parts]
def kindsD (ks : List Kd) : Da := .tup (ks.map Kd.d)
def lookK (ks : List Kd) (n : Str) : Option Kd := ks.find? fun k => decide (k.name = n)
structure Ch where
  name : Str
  src : Str
  dst : Str
  kind : Str
def Ch.d (c : Ch) : Da := .tup [.str c.name, .str c.src, .str c.dst, .str c.kind]
inductive Rw where
  | set (x : Str) (e : Da)
  | send (c : Str) (e : Da)
  | take (l c x : Str)
  | tell (e : Da)
  | go (k : Nat)
  | ite (e : Da) (k : Nat)
  | fin
def Rw.d : Rw → Da
  | .set x e => .tup [.str "set", .str x, e]
  | .send c e => .tup [.str "send", .str c, e]
  | .take l c x => .tup [.str "take", .str l, .str c, .str x]
  | .tell e => .tup [.str "tell", e]
  | .go k => .tup [.str "go", .int (k : Int)]
  | .ite e k => .tup [.str "if", e, .int (k : Int)]
  | .fin => .tup [.str "end"]
structure Hn where
  name : Str
  boxes : List (Str × Str)
  rows : List Rw
def Hn.d (h : Hn) : Da := .tup [.str h.name, partsD h.boxes, .tup (h.rows.map Rw.d)]
structure Mk0 where
  kinds : List Kd
  chans : List Ch
  hands : List Hn
def Mk0.d (m : Mk0) : Da := .tup [kindsD m.kinds, .tup (m.chans.map Ch.d), .tup (m.hands.map Hn.d)]
def lookH (m : Mk0) (n : Str) : Option Hn := m.hands.find? fun h => decide (h.name = n)
/-! ### kinds by levels; values; terms -/
def LvK (ks : List Kd) : Nat → Str → Prop
  | 0, k => k = "num"
  | n + 1, k => k = "num" ∨ ∃ kd, lookK ks k = some kd ∧ (kd.alt = true → kd.parts ≠ []) ∧ ∀ p ∈ kd.parts, LvK ks n p.2
def NumV (d : Da) : Prop := ∃ i : Int, d = .int i ∧ 0 ≤ i ∧ i < 4294967296
def VT (ks : List Kd) : Nat → Str → Da → Prop
  | 0, k, d => k = "num" ∧ NumV d
  | n + 1, k, d => (k = "num" ∧ NumV d) ∨ ∃ kd, lookK ks k = some kd ∧
      ((kd.alt = false ∧ ∃ vs, d = .tup [.str k, .tup vs] ∧ Paired (fun (p : Str × Str) v => VT ks n p.2 v) kd.parts vs) ∨
       (kd.alt = true ∧ ∃ t p v, lkE kd.parts t = some p ∧ d = .tup [.str k, .str t, v] ∧ VT ks n p v))
/-- kinds that are right -/
structure KsOk (ks : List Kd) : Prop where
  names : (ks.map (·.name)).Nodup
  num : lookK ks "num" = none
  parts : ∀ kd ∈ ks, (kd.parts.map (·.1)).Nodup
  few : ∀ kd ∈ ks, kd.parts.length ≤ 5
  many : ks.length ≤ 4
  lev : ∀ kd ∈ ks, LvK ks 4 kd.name
theorem lookK_mem {ks : List Kd} {n : Str} {kd : Kd} (h : lookK ks n = some kd) : kd ∈ ks ∧ kd.name = n := by
  have h1 := List.mem_of_find?_eq_some h
  have h2 := List.find?_some h
  exact ⟨h1, by simpa using h2⟩
theorem lookK_of {ks : List Kd} {kd : Kd} (hn : (ks.map (·.name)).Nodup) (h : kd ∈ ks) : lookK ks kd.name = some kd := by
  induction ks with
  | nil => cases h
  | cons k ks ih =>
    rw [List.map_cons, List.nodup_cons] at hn
    unfold lookK
    rw [List.find?_cons]
    rcases List.mem_cons.mp h with e | h
    · subst e
      simp
    · have hne : ¬ k.name = kd.name := fun e => hn.1 (e ▸ List.mem_map.mpr ⟨kd, h, rfl⟩)
      rw [decide_eq_false hne]
      exact ih hn.2 h
theorem LvK.succ {ks : List Kd} : ∀ {n : Nat} {k : Str}, LvK ks n k → LvK ks (n + 1) k
  | 0, _, h => .inl h
  | n + 1, _, h => by
    rcases h with h | ⟨kd, h1, h2, h3⟩
    · exact .inl h
    · exact .inr ⟨kd, h1, h2, fun p hp => (h3 p hp).succ⟩
theorem LvK.mono {ks : List Kd} {n m : Nat} {k : Str} (h : LvK ks n k) (hm : n ≤ m) : LvK ks m k := by
  induction hm with
  | refl => exact h
  | step _ ih => exact ih.succ
theorem pairedImp {α β : Type} {F G : α → β → Prop} {l : List α} {m : List β} (h : Paired F l m) (k : ∀ a ∈ l, ∀ b, F a b → G a b) : Paired G l m := by
  induction h with
  | nil => exact .nil
  | cons r _ ih => exact .cons (k _ List.mem_cons_self _ r) (ih fun a ha b => k a (List.mem_cons_of_mem _ ha) b)
/-- a value's depth is its kind's -/
theorem vt_lev {ks : List Kd} (hn : lookK ks "num" = none) : ∀ {n m : Nat} {k : Str} {d : Da}, VT ks m k d → LvK ks n k → VT ks n k d
  | 0, 0, _, _, h, _ => h
  | 0, m + 1, k, d, h, l => by
    rcases h with h | ⟨kd, h1, _⟩
    · exact h
    · have e : k = "num" := l
      rw [e, hn] at h1
      cases h1
  | n + 1, 0, _, _, h, _ => .inl h
  | n + 1, m + 1, k, d, h, l => by
    rcases h with h | ⟨kd, h1, h2⟩
    · exact .inl h
    · rcases l with e | ⟨kd', l1, l2, l3⟩
      · rw [e, hn] at h1
        cases h1
      · rw [h1] at l1
        cases l1
        refine .inr ⟨kd, h1, ?_⟩
        rcases h2 with ⟨a, vs, e, r⟩ | ⟨a, t, p, v, e1, e2, r⟩
        · exact .inl ⟨a, vs, e, pairedImp r fun q hq v hv => vt_lev hn hv (l3 q hq)⟩
        · exact .inr ⟨a, t, p, v, e1, e2, vt_lev hn r (l3 _ (lkE_mem e1))⟩
theorem KsOk.lv {ks : List Kd} (h : KsOk ks) {k : Str} {kd : Kd} (e : lookK ks k = some kd) : LvK ks 4 k := by
  obtain ⟨h1, h2⟩ := lookK_mem e
  rw [← h2]
  exact h.lev kd h1
theorem KsOk.lvp {ks : List Kd} (h : KsOk ks) {k : Str} {kd : Kd} (e : lookK ks k = some kd) : (kd.alt = true → kd.parts ≠ []) ∧ ∀ p ∈ kd.parts, LvK ks 3 p.2 := by
  rcases h.lv e with z | ⟨kd', h1, h2, h3⟩
  · rw [z, h.num] at e
    cases e
  · rw [e] at h1
    cases h1
    exact ⟨h2, h3⟩
/-- the least value of a kind -/
def nt (ks : List Kd) : Nat → Str → Da
  | 0, _ => .int 0
  | n + 1, k => match lookK ks k with
    | none => .int 0
    | some kd => match kd.alt with
      | true => (match kd.parts with
        | [] => .int 0
        | p :: _ => .tup [.str k, .str p.1, nt ks n p.2])
      | false => .tup [.str k, .tup (kd.parts.map fun p => nt ks n p.2)]
theorem paired_map {α β : Type} {F : α → β → Prop} {f : α → β} : ∀ {l : List α}, (∀ a ∈ l, F a (f a)) → Paired F l (l.map f)
  | [], _ => .nil
  | a :: l, h => .cons (h a List.mem_cons_self) (paired_map fun b hb => h b (List.mem_cons_of_mem _ hb))
theorem nt_vt {ks : List Kd} (hn : lookK ks "num" = none) : ∀ {n : Nat} {k : Str}, LvK ks n k → VT ks n k (nt ks n k)
  | 0, k, h => ⟨h, 0, rfl, by decide, by decide⟩
  | n + 1, k, h => by
    rcases h with h | ⟨kd, h1, h2, h3⟩
    · subst h
      refine .inl ⟨rfl, 0, ?_, by decide, by decide⟩
      show (match lookK ks "num" with | none => Da.int 0 | some kd => _) = _
      rw [hn]
    · refine .inr ⟨kd, h1, ?_⟩
      have e : nt ks (n + 1) k = (match kd.alt with
        | true => (match kd.parts with
          | [] => Da.int 0
          | p :: _ => .tup [.str k, .str p.1, nt ks n p.2])
        | false => .tup [.str k, .tup (kd.parts.map fun p => nt ks n p.2)]) := by
        show (match lookK ks k with | none => Da.int 0 | some kd => _) = _
        rw [h1]
      cases ha : kd.alt with
      | false =>
        rw [ha] at e
        exact .inl ⟨rfl, _, e, paired_map fun p hp => nt_vt hn (h3 p hp)⟩
      | true =>
        rw [ha] at e
        cases hp : kd.parts with
        | nil => exact absurd hp (h2 ha)
        | cons p r =>
          rw [hp] at e
          refine .inr ⟨rfl, p.1, p.2, _, ?_, e, nt_vt hn (h3 p (by rw [hp]; exact List.mem_cons_self))⟩
          rw [lkE_cons, if_pos rfl]
/-! ### what terms come to -/
def two (s : Str) (i j : Int) : Int :=
  if s = "+" then (i + j) % 4294967296 else if s = "-" then (i - j) % 4294967296 else if s = "*" then i * j % 4294967296 else if s = "<" then (if i < j then 1 else 0) else (if i = j then 1 else 0)
theorem two_num (s : Str) (i j : Int) : 0 ≤ two s i j ∧ two s i j < 4294967296 := by
  unfold two
  repeat' split
  all_goals omega
def Ev (ks : List Kd) : Nat → List (Str × Da) → Da → Da → Prop
  | 0, _, _, _ => False
  | n + 1, ρ, d, v =>
    (∃ i, d = .tup [.str "num", .int i] ∧ v = .int i) ∨
    (∃ x, d = .tup [.str "box", .str x] ∧ lkE ρ x = some v) ∨
    (∃ s a b i j, d = .tup [.str "op", .str s, a, b] ∧ Ev ks n ρ a (.int i) ∧ Ev ks n ρ b (.int j) ∧ (-(2 ^ 64) < i ∧ i < 2 ^ 64) ∧ v = .int (two s i j)) ∨
    (∃ (k : Str) (es vs : List Da), d = .tup [.str "rec", .str k, .tup es] ∧ es.length ≤ 1000 ∧ Paired (Ev ks n ρ) es vs ∧ v = .tup [.str k, .tup vs]) ∨
    (∃ (a : Da) (f k : Str) (vs : List Da) (kd : Kd) (j : Nat) (p : Str), d = .tup [.str "get", a, .str f] ∧ Ev ks n ρ a (.tup [.str k, .tup vs]) ∧ lookK ks k = some kd ∧ kd.parts.length ≤ 1000 ∧ (kd.parts.map (·.1)).Nodup ∧ kd.parts[j]? = some (f, p) ∧ vs[j]? = some v) ∨
    (∃ k t e w, d = .tup [.str "tag", .str k, .str t, e] ∧ Ev ks n ρ e w ∧ v = .tup [.str k, .str t, w]) ∨
    (∃ (a : Da) (arms : List Da) (k t : Str) (w : Da) (j : Nat) (y : Str) (e : Da), d = .tup [.str "case", a, .tup arms] ∧ Ev ks n ρ a (.tup [.str k, .str t, w]) ∧ (∀ m ∈ arms, ∃ t' y' e', m = Da.tup [.str t', .str y', e']) ∧ arms[j]? = some (Da.tup [.str t, .str y, e]) ∧
      (∀ i < j, ∀ t' r, arms[i]? = some (Da.tup (.str t' :: r)) → t' ≠ t) ∧ ρ.length < 1000 ∧ Ev ks n (putE ρ y w) e v) ∨
    (∃ c a b i, d = .tup [.str "if", c, a, b] ∧ Ev ks n ρ c (.int i) ∧ ((i ≠ 0 ∧ Ev ks n ρ a v) ∨ (i = 0 ∧ Ev ks n ρ b v)))
/-- terms of a kind over boxes -/
def Tm (ks : List Kd) : Nat → List (Str × Str) → Str → Da → Prop
  | 0, _, _, _ => False
  | n + 1, Γ, k, d =>
    (∃ i, d = .tup [.str "num", .int i] ∧ k = "num" ∧ 0 ≤ i ∧ i < 4294967296) ∨
    (∃ x, d = .tup [.str "box", .str x] ∧ lkE Γ x = some k) ∨
    (∃ s a b, d = .tup [.str "op", .str s, a, b] ∧ k = "num" ∧ Tm ks n Γ "num" a ∧ Tm ks n Γ "num" b) ∨
    (∃ es kd, d = .tup [.str "rec", .str k, .tup es] ∧ lookK ks k = some kd ∧ kd.alt = false ∧ Paired (fun (p : Str × Str) e => Tm ks n Γ p.2 e) kd.parts es) ∨
    (∃ a f k' kd, d = .tup [.str "get", a, .str f] ∧ Tm ks n Γ k' a ∧ lookK ks k' = some kd ∧ kd.alt = false ∧ (f, k) ∈ kd.parts) ∨
    (∃ t p e kd, d = .tup [.str "tag", .str k, .str t, e] ∧ lookK ks k = some kd ∧ kd.alt = true ∧ (t, p) ∈ kd.parts ∧ Tm ks n Γ p e) ∨
    (∃ a arms k' kd, d = .tup [.str "case", a, .tup arms] ∧ Tm ks n Γ k' a ∧ lookK ks k' = some kd ∧ kd.alt = true ∧
      (∀ m ∈ arms, ∃ t y e p, m = Da.tup [.str t, .str y, e] ∧ (t, p) ∈ kd.parts ∧ ¬ y ∈ Γ.map (·.1) ∧ Tm ks n (Γ ++ [(y, p)]) k e) ∧ (∀ t p, (t, p) ∈ kd.parts → ∃ y e, Da.tup [.str t, .str y, e] ∈ arms)) ∨
    (∃ c a b, d = .tup [.str "if", c, a, b] ∧ Tm ks n Γ "num" c ∧ Tm ks n Γ k a ∧ Tm ks n Γ k b)
/-- boxes that hold values of their kinds -/
def EnvT (ks : List Kd) (Γ : List (Str × Str)) (ρ : List (Str × Da)) : Prop := ρ.map (·.1) = Γ.map (·.1) ∧ (Γ.map (·.1)).Nodup ∧ ∀ x k, lkE Γ x = some k → ∃ v, lkE ρ x = some v ∧ VT ks 4 k v
theorem pairedEx {α β γ : Type} {F : α → β → Prop} {G : β → γ → Prop} {R : α → γ → Prop} {l : List α} {m : List β} (h : Paired F l m) (k : ∀ a ∈ l, ∀ b, F a b → ∃ c, G b c ∧ R a c) : ∃ cs, Paired G m cs ∧ Paired R l cs := by
  induction h with
  | nil => exact ⟨[], .nil, .nil⟩
  | cons r _ ih =>
    obtain ⟨c, g, q⟩ := k _ List.mem_cons_self _ r
    obtain ⟨cs, gs, qs⟩ := ih fun a ha b => k a (List.mem_cons_of_mem _ ha) b
    exact ⟨c :: cs, .cons g gs, .cons q qs⟩
theorem pairedAt {α β : Type} {F : α → β → Prop} {l : List α} {m : List β} (h : Paired F l m) : ∀ {j : Nat} {a : α}, l[j]? = some a → ∃ b, m[j]? = some b ∧ F a b := by
  induction h with
  | nil => intro j a e; simp at e
  | cons r _ ih =>
    intro j a e
    cases j with
    | zero =>
      have e' := Option.some.inj (show some _ = some a from e)
      subst e'
      exact ⟨_, rfl, r⟩
    | succ j => exact ih (by simpa using e)
theorem envT_put {ks : List Kd} {Γ : List (Str × Str)} {ρ : List (Str × Da)} {x k : Str} {w : Da} (h : EnvT ks Γ ρ) (hx : lkE Γ x = some k) (hw : VT ks 4 k w) : EnvT ks Γ (putE ρ x w) := by
  obtain ⟨h1, h2, h3⟩ := h
  have hm : x ∈ ρ.map (·.1) := by
    rw [h1]
    exact List.mem_map.mpr ⟨_, lkE_mem hx, rfl⟩
  refine ⟨(putE_keys w hm).trans h1, h2, fun y k' e => ?_⟩
  rw [lkE_put]
  by_cases exy : x = y
  · subst exy
    rw [hx] at e
    cases e
    exact ⟨w, if_pos rfl, hw⟩
  · rw [if_neg exy]
    exact h3 y k' e
theorem envT_new {ks : List Kd} {Γ : List (Str × Str)} {ρ : List (Str × Da)} {x k : Str} {w : Da} (h : EnvT ks Γ ρ) (hx : ¬ x ∈ Γ.map (·.1)) (hw : VT ks 4 k w) : EnvT ks (Γ ++ [(x, k)]) (putE ρ x w) := by
  obtain ⟨h1, h2, h3⟩ := h
  have hm : ¬ x ∈ ρ.map (·.1) := by rw [h1]; exact hx
  refine ⟨?_, ?_, fun y k' e => ?_⟩
  · rw [putE_new w hm, List.map_append, List.map_append, h1]
    rfl
  · rw [List.map_append]
    exact nd_snoc h2 hx
  · rw [lkE_put]
    rw [lkE_append] at e
    by_cases exy : x = y
    · subst exy
      rw [lkE_none hx, lkE_cons, if_pos rfl] at e
      cases e
      exact ⟨w, if_pos rfl, hw⟩
    · rw [lkE_cons, if_neg exy, lkE_nil, Option.or_none] at e
      rw [if_neg exy]
      exact h3 y k' e
theorem vt_num {ks : List Kd} (hn : lookK ks "num" = none) : ∀ {n : Nat} {d : Da}, VT ks n "num" d → NumV d
  | 0, _, h => h.2
  | n + 1, _, h => by
    rcases h with h | ⟨kd, h1, _⟩
    · exact h.2
    · rw [hn] at h1
      cases h1
theorem putE_len {α : Type} (l : List (Str × α)) (x : Str) (d : α) : (putE l x d).length ≤ l.length + 1 := by
  unfold putE
  split
  · rw [List.length_map]
    omega
  · rw [List.length_append]
    exact Nat.le_refl _
/-- a term of a kind comes to a value of it -/
theorem tm_ev {ks : List Kd} (K : KsOk ks) : ∀ {n : Nat} {Γ : List (Str × Str)} {ρ : List (Str × Da)} {k : Str} {d : Da}, Tm ks n Γ k d → EnvT ks Γ ρ → ρ.length + n ≤ 1000 → ∃ v, Ev ks n ρ d v ∧ VT ks 4 k v
  | 0, _, _, _, _, h, _, _ => h.elim
  | n + 1, Γ, ρ, k, d, h, e, hl => by
    rcases h with ⟨i, rfl, rfl, h1, h2⟩ | ⟨x, rfl, hx⟩ | ⟨s, a, b, rfl, rfl, ha, hb⟩ | ⟨es, kd, rfl, hk, hal, hp⟩ | ⟨a, f, k', kd, rfl, ha, hk, hal, hf⟩ | ⟨t, p, e1, kd, rfl, hk, hal, ht, he⟩ | ⟨a, arms, k', kd, rfl, ha, hk, hal, h1, h2⟩ | ⟨c, a, b, rfl, hc, ha, hb⟩
    · exact ⟨_, .inl ⟨i, rfl, rfl⟩, .inl ⟨rfl, i, rfl, h1, h2⟩⟩
    · obtain ⟨v, e1, e2⟩ := e.2.2 x k hx
      exact ⟨v, .inr (.inl ⟨x, rfl, e1⟩), e2⟩
    · obtain ⟨v1, a1, a2⟩ := tm_ev K ha e (by omega)
      obtain ⟨v2, b1, b2⟩ := tm_ev K hb e (by omega)
      obtain ⟨i, rfl, i1, i2⟩ := vt_num K.num a2
      obtain ⟨j, rfl, _, _⟩ := vt_num K.num b2
      exact ⟨_, .inr (.inr (.inl ⟨s, a, b, i, j, rfl, a1, b1, ⟨by omega, by omega⟩, rfl⟩)), .inl ⟨rfl, _, rfl, two_num s i j⟩⟩
    · obtain ⟨l1, l2⟩ := K.lvp hk
      obtain ⟨vs, g1, g2⟩ := pairedEx (G := Ev ks n ρ) (R := fun (p : Str × Str) v => VT ks 3 p.2 v) hp fun p hp' b hb => by
        obtain ⟨v, v1, v2⟩ := tm_ev K hb e (by omega)
        exact ⟨v, v1, vt_lev K.num v2 (l2 p hp')⟩
      refine ⟨_, .inr (.inr (.inr (.inl ⟨k, es, vs, rfl, ?_, g1, rfl⟩))), .inr ⟨kd, hk, .inl ⟨hal, vs, rfl, g2⟩⟩⟩
      rw [← hp.length]
      exact Nat.le_trans (K.few kd (lookK_mem hk).1) (by decide)
    · obtain ⟨v, v1, v2⟩ := tm_ev K ha e (by omega)
      rcases v2 with ⟨z, _⟩ | ⟨kd', z, w⟩
      · rw [z, K.num] at hk
        cases hk
      · rw [hk] at z
        cases z
        rcases w with ⟨_, vs, rfl, r⟩ | ⟨z, _⟩
        · obtain ⟨j, ej⟩ := List.getElem?_of_mem hf
          obtain ⟨v, e1, e2⟩ := pairedAt r ej
          exact ⟨v, .inr (.inr (.inr (.inr (.inl ⟨a, f, k', vs, kd, j, k, rfl, v1, hk, Nat.le_trans (K.few kd (lookK_mem hk).1) (by decide), K.parts kd (lookK_mem hk).1, ej, e1⟩)))),
            by
              have l := (K.lvp hk).2 _ hf
              exact vt_lev (m := 3) K.num e2 (LvK.mono l (by decide))⟩
        · rw [hal] at z
          cases z
    · obtain ⟨v, v1, v2⟩ := tm_ev K he e (by omega)
      exact ⟨_, .inr (.inr (.inr (.inr (.inr (.inl ⟨k, t, e1, v, rfl, v1, rfl⟩))))),
        .inr ⟨kd, hk, .inr ⟨hal, t, p, v, lkE_of_mem (K.parts kd (lookK_mem hk).1) ht, rfl, vt_lev K.num v2 ((K.lvp hk).2 _ ht)⟩⟩⟩
    · obtain ⟨v, v1, v2⟩ := tm_ev K ha e (by omega)
      rcases v2 with ⟨z, _⟩ | ⟨kd', z, w⟩
      · rw [z, K.num] at hk
        cases hk
      · rw [hk] at z
        cases z
        rcases w with ⟨z, _⟩ | ⟨_, t, p, w, ht, rfl, hw⟩
        · rw [hal] at z
          cases z
        · obtain ⟨y0, e0, hm⟩ := h2 t p (lkE_mem ht)
          -- the first arm of this tag
          have first : ∀ (l : List Da), (∀ m ∈ l, ∃ t' y' e', m = Da.tup [.str t', .str y', e']) → (∃ y e, Da.tup [.str t, .str y, e] ∈ l) →
              ∃ (j : Nat) (y : Str) (e : Da), l[j]? = some (Da.tup [.str t, .str y, e]) ∧ ∀ i < j, ∀ t' r, l[i]? = some (Da.tup (.str t' :: r)) → t' ≠ t := by
            intro l
            induction l with
            | nil => intro _ ⟨y, e, h⟩; cases h
            | cons m l ih =>
              intro hf ⟨y, e, h⟩
              obtain ⟨t', y', e', rfl⟩ := hf m List.mem_cons_self
              by_cases et : t' = t
              · subst et
                exact ⟨0, y', e', rfl, fun i hi => absurd hi (Nat.not_lt_zero i)⟩
              · have h' : Da.tup [.str t, .str y, e] ∈ l := by
                  rcases List.mem_cons.mp h with z | z
                  · injection z with z
                    injection z with z1 _
                    injection z1 with z2
                    exact absurd z2.symm et
                  · exact z
                obtain ⟨j, y2, e2, q1, q2⟩ := ih (fun m hm => hf m (List.mem_cons_of_mem _ hm)) ⟨y, e, h'⟩
                refine ⟨j + 1, y2, e2, by simpa using q1, fun i hi t2 r er => ?_⟩
                cases i with
                | zero =>
                  have z := Option.some.inj (show some _ = some _ from er)
                  injection z with z
                  injection z with z1 _
                  injection z1 with z2
                  rw [← z2]
                  exact et
                | succ i => exact q2 i (by omega) t2 r (by simpa using er)
          have form : ∀ m ∈ arms, ∃ t' y' e', m = Da.tup [.str t', .str y', e'] := fun m hm => by
            obtain ⟨t', y', e', p', q, _⟩ := h1 m hm
            exact ⟨t', y', e', q⟩
          obtain ⟨j, y, e1, q1, q2⟩ := first arms form ⟨y0, e0, hm⟩
          obtain ⟨t', y', e', p', z, z2, z3, z4⟩ := h1 _ (List.mem_of_getElem? q1)
          injection z with z
          injection z with za zr
          injection za with za
          injection zr with zb zr
          injection zb with zb
          injection zr with zc _
          subst za zb zc
          have ep : p' = p := Option.some.inj ((lkE_of_mem (K.parts kd (lookK_mem hk).1) z2).symm.trans ht)
          subst ep
          have hl2 := putE_len ρ y w
          have hw4 : VT ks 4 p' w := vt_lev (m := 3) K.num hw (LvK.mono ((K.lvp hk).2 _ z2) (by decide))
          obtain ⟨u, u1, u2⟩ := tm_ev K z4 (envT_new e z3 hw4) (by omega)
          exact ⟨u, .inr (.inr (.inr (.inr (.inr (.inr (.inl ⟨a, arms, k', t, w, j, y, e1, rfl, v1, form, q1, q2, by omega, u1⟩)))))), u2⟩
    · obtain ⟨v, v1, v2⟩ := tm_ev K hc e (by omega)
      obtain ⟨i, rfl, _, _⟩ := vt_num K.num v2
      by_cases hi : i = 0
      · obtain ⟨u, u1, u2⟩ := tm_ev K hb e (by omega)
        exact ⟨u, .inr (.inr (.inr (.inr (.inr (.inr (.inr ⟨c, a, b, i, rfl, v1, .inr ⟨hi, u1⟩⟩)))))), u2⟩
      · obtain ⟨u, u1, u2⟩ := tm_ev K ha e (by omega)
        exact ⟨u, .inr (.inr (.inr (.inr (.inr (.inr (.inr ⟨c, a, b, i, rfl, v1, .inl ⟨hi, u1⟩⟩)))))), u2⟩
end SwK
set_option maxHeartbeats 4000000
/-! kinds, hands, rows looked up -/
namespace SwK
open PySem PySem.Spec PyProof.Rows L2
section
variable {X : Cx} {K : PySem.W.Frag}
theorem ixT (h : X.K = K) : IxR X (rIxT K) := h ▸ ix_tup
theorem ixL (h : X.K = K) : IxR X (rIxL K) := h ▸ ix_list
theorem slT (h : X.K = K) : SlR X (rSlT K) := h ▸ sl_tup
theorem pgT {es : List Expr} {k : Nat} {t : TGs} {pos : Pos} {n : Nat} (h : X.K = K) (hc : X.calm = true) (hs : PGs X es t) (hn : (assignEach es X.env).length = n := by rfl) (hst : (assignEach es X.env).findIdx? (·.1) = none := by rfl) : PG X (.Tuple es k pos) (gTup K n t) := h ▸ pg_tup hc hs hn hst
end
theorem at0 {α : Type} {x : α} {r : List α} : atI (x :: r) 0 = some x := atI_nat (j := 0) rfl
theorem at1 {α : Type} {x y : α} {r : List α} : atI (x :: y :: r) 1 = some y := atI_nat (j := 1) rfl
theorem at2 {α : Type} {x y z : α} {r : List α} : atI (x :: y :: z :: r) 2 = some z := atI_nat (j := 2) rfl
theorem at3 {α : Type} {x y z u : α} {r : List α} : atI (x :: y :: z :: u :: r) 3 = some u := atI_nat (j := 3) rfl
/-- a tuple that begins with this text -/
def hdIs (nm : Str) : Da → Bool
  | .tup (.str s :: _) => decide (s = nm)
  | _ => false
def Nmd (ds : List Da) : Prop := ∀ d ∈ ds, ∃ s r, d = .tup (.str s :: r)
theorem find_take {α : Type} {p : α → Bool} {l : List α} {i : Nat} {x : α} (e : l[i]? = some x) (h : (l.take i).find? p = none) : (l.take (i + 1)).find? p = if p x = true then some x else none := by
  rw [List.take_succ, e, List.find?_append, h]
  show (([x] : List α).find? p) = _
  rw [List.find?_cons]
  cases p x <;> rfl
theorem find_here {α : Type} {p : α → Bool} {l : List α} {i : Nat} {x : α} (e : l[i]? = some x) (h : (l.take i).find? p = none) (hx : p x = true) : l.find? p = some x := by
  have q := find_take e h
  rw [if_pos hx] at q
  rw [← List.take_append_drop (i + 1) l, List.find?_append, q]
  rfl
/-- the first of some tuples with a name, or None -/
def spNamed : Sp := sp2 fun a b H Q => ∃ ds nm, Im H a (.tup ds) ∧ b = .str nm ∧ Nmd ds ∧ (∀ d, ds.find? (hdIs nm) = some d → ∀ v, Im H v d → Q v H) ∧ (ds.find? (hdIs nm) = none → Q .non H)
section
variable {P : Program} {w : World} {K : PySem.W.Frag} {mg : Str → Option Value} {base : Heap}
/- named: slots 0 some 1 name 2 one -/
theorem sc_named : FnScope ["some", "name", "one"] ["some", "name"] (defScope s_named) := ⟨rfl, rfl, rfl, by decide +kernel, rfl, by decide +kernel, by decide +kernel⟩
theorem ok_named (T : Txt K mg) : C8.Cal P w K mg base 1 "named" spNamed [] := by
  refine mkCal (f_named T) (g_named T) sc_named (fun _ _ _ _ _ _ us hl => match us, hl with | [_, _], _ => rfl) (fun vs H Q E h => ?_) (fun vs H Q E h => ?_)
  · obtain ⟨a, b, rfl, _⟩ := sp2_len h
    rfl
  obtain ⟨a, b, rfl, h⟩ := sp2_len h
  intro cdv A outer s E hr
  have hu := hu_of hr
  obtain ⟨ds, nm, h1, rfl, hn, k1, k2⟩ := h
  obtain ⟨p, xs, rfl, e, l⟩ := im_tup h1
  refine ⟨_, (pss_cons (ps_for PassesOwn.never rfl (pi_tup (pv 0)) (pg_name (i := 2) sc_named.nd rfl (by first | exact .inl rfl | exact .inr rfl)) (pss_one (ps_if (pt_cmpR op_eq (pe_ix ix_tup (pv 2) pe_int (fun _ _ => rfl)) (pv 1) (nomark _)) (pss_one (ps_ret (pv 2))) pss_nil)))
        (pss_one (ps_ret pe_non))), ?_⟩
  refine ⟨_, rfl, p, rfl, ⟨_, SqT.of e⟩, for_tup (xs := xs) (fun i σ H' => H' = H ∧ (∃ o, σ = [some (.ref p), some (.str nm), o]) ∧ (ds.take i).find? (hdIs nm) = none) ⟨rfl, ⟨_, rfl⟩, rfl⟩ (fun i σ H' _ q => by rw [q.1]; exact SqT.of e) ?_ ?_⟩
  · rintro i x σ H' hx ⟨rfl, ⟨o, rfl⟩, hf⟩
    obtain ⟨d, hd, im⟩ := l.get' hx
    obtain ⟨s1, r, rfl⟩ := hn d (List.mem_of_getElem? hd)
    obtain ⟨q, ys, rfl, eq, ly⟩ := im_tup im
    obtain ⟨z, zs, rfl, hz, _⟩ := iml_cons ly
    cases im_str hz
    refine ⟨_, rfl, q, _, _, _, rfl, rfl, SqT.of eq, at0, _, rfl, rfl, _, rfl, ?_⟩
    by_cases hs : s1 = nm
    · subst hs
      rw [decide_eq_true (rfl : V.str s1 = V.str s1)]
      refine iteT ⟨_, rfl, k1 _ (find_here hd hf (decide_eq_true rfl)) _ im⟩
    · rw [decide_eq_false (fun z => hs (V.str.inj z))]
      refine iteF ⟨rfl, ⟨_, rfl⟩, ?_⟩
      rw [find_take hd hf, if_neg (by show ¬ decide (s1 = nm) = true; rw [decide_eq_false hs]; exact Bool.false_ne_true)]
  · rintro σ H' ⟨rfl, ⟨o, rfl⟩, hf⟩
    rw [l.length, List.take_length] at hf
    exact k2 hf
end
end SwK
set_option maxHeartbeats 4000000
/-! kinds, noughts, what terms come to: the defs -/
namespace SwK
open PySem PySem.Spec PyProof.Rows L2
/-! ### dicts of data -/
inductive KvI (H : Hp) : List (Key × V) → List (Str × Da) → Prop
  | nil : KvI H [] []
  | cons {x : Str} {v : V} {d : Da} {kvs : List (Key × V)} {ρ : List (Str × Da)} : Im H v d → KvI H kvs ρ → KvI H ((Sum.inr x, v) :: kvs) ((x, d) :: ρ)
theorem KvI.mono {H H' : Hp} (k : Tk H H') {kvs : List (Key × V)} {ρ : List (Str × Da)} (h : KvI H kvs ρ) : KvI H' kvs ρ := by
  induction h with
  | nil => exact .nil
  | cons a _ ih => exact .cons (a.mono k) ih
theorem KvI.length {H : Hp} {kvs : List (Key × V)} {ρ : List (Str × Da)} (h : KvI H kvs ρ) : kvs.length = ρ.length := by
  induction h with
  | nil => rfl
  | cons _ _ ih => rw [List.length_cons, List.length_cons, ih]
theorem KvI.has {H : Hp} {kvs : List (Key × V)} {ρ : List (Str × Da)} (h : KvI H kvs ρ) {x : Str} {d : Da} (e : lkE ρ x = some d) : ∃ v, valV kvs (Sum.inr x : Key) = some v ∧ Im H v d := by
  induction h with
  | nil => cases e
  | @cons y v d' kvs ρ a _ ih =>
    rw [lkE_cons] at e
    by_cases exy : y = x
    · subst exy
      rw [if_pos rfl] at e
      cases e
      exact ⟨v, valV_pos rfl, a⟩
    · rw [if_neg exy] at e
      obtain ⟨u, e1, e2⟩ := ih e
      exact ⟨u, (valV_neg fun z => exy (Sum.inr.inj z)).trans e1, e2⟩
theorem KvI.no {H : Hp} {kvs : List (Key × V)} {ρ : List (Str × Da)} (h : KvI H kvs ρ) {x : Str} (e : lkE ρ x = none) : valV kvs (Sum.inr x : Key) = none := by
  induction h with
  | nil => rfl
  | @cons y v d' kvs ρ a _ ih =>
    rw [lkE_cons] at e
    by_cases exy : y = x
    · rw [if_pos exy] at e
      cases e
    · rw [if_neg exy] at e
      exact (valV_neg fun z => exy (Sum.inr.inj z)).trans (ih e)
theorem KvI.append {H : Hp} {kvs ls : List (Key × V)} {ρ μ : List (Str × Da)} (h : KvI H kvs ρ) (g : KvI H ls μ) : KvI H (kvs ++ ls) (ρ ++ μ) := by
  induction h with
  | nil => exact g
  | cons a _ ih => exact .cons a ih
theorem KvI.put {H : Hp} {kvs : List (Key × V)} {ρ : List (Str × Da)} (h : KvI H kvs ρ) {x : Str} {v : V} {d : Da} (a : Im H v d) : KvI H (putK kvs (Sum.inr x) v) (putE ρ x d) := by
  by_cases hx : x ∈ ρ.map (·.1)
  · obtain ⟨z, hz⟩ := lkE_some hx
    obtain ⟨u, hu, _⟩ := h.has hz
    have e1 : putK kvs (Sum.inr x : Key) v = kvs.map (fun kv => if kv.1 = Sum.inr x then (kv.1, v) else kv) := by
      unfold putK
      rw [valV_any, hu]
      exact if_pos rfl
    have e2 : putE ρ x d = ρ.map (fun p => if p.1 = x then (p.1, d) else p) := by
      unfold putE
      rw [lkE_any, hz]
      exact if_pos rfl
    rw [e1, e2]
    clear e1 e2 hu hz hx
    induction h with
    | nil => exact .nil
    | @cons y w e kvs ρ b _ ih =>
      rw [List.map_cons, List.map_cons]
      by_cases exy : y = x
      · subst exy
        rw [if_pos rfl, if_pos rfl]
        exact .cons a ih
      · rw [if_neg (show ¬ ((Sum.inr y : Key), w).1 = Sum.inr x from fun z => exy (Sum.inr.inj z)), if_neg (show ¬ (y, e).1 = x from exy)]
        exact .cons b ih
  · rw [putE_new d hx, putK_new v (h.no (lkE_none hx))]
    exact h.append (.cons a .nil)
theorem KvI.at {H : Hp} {kvs : List (Key × V)} {ρ : List (Str × Da)} (h : KvI H kvs ρ) : ∀ {i : Nat} {x : Str} {d : Da}, ρ[i]? = some (x, d) → ∃ v, kvs[i]? = some (Sum.inr x, v) ∧ Im H v d := by
  induction h with
  | nil => intro i x d e; simp at e
  | @cons y v d' kvs ρ a _ ih =>
    intro i x d e
    cases i with
    | zero =>
      have e' := Option.some.inj (show some (y, d') = some (x, d) from e)
      cases e'
      exact ⟨v, rfl, a⟩
    | succ i =>
      obtain ⟨u, e1, e2⟩ := ih (i := i) (by simpa using e)
      exact ⟨u, by simpa using e1, e2⟩
theorem dget_s {H : Hp} {a : Addr} {kvs : List (Key × V)} {x : Str} (h : Rd H a (.dK kvs)) : DGet H a (.str x) (valV kvs (Sum.inr x)) := .inl ⟨kvs, Sum.inr x, h, rfl, rfl⟩
theorem rd_of {H : Hp} {a : Addr} {u : HO} (h : H a = some u) : Rd H a u := .inl h
theorem rd_same {H H' : Hp} {a : Addr} {u : HO} (s : Same H H') (h : Rd H a u) : Rd H' a u := by
  rcases h with h | ⟨o, h⟩
  · exact .inl (s _ _ h)
  · exact .inr ⟨o, s _ _ h⟩
theorem nmd_kinds (ks : List Kd) : Nmd (ks.map Kd.d) := fun d hd => by
  obtain ⟨k, _, rfl⟩ := List.mem_map.mp hd
  exact ⟨_, _, rfl⟩
theorem find_kinds (ks : List Kd) (n : Str) : (ks.map Kd.d).find? (hdIs n) = (lookK ks n).map Kd.d := by
  unfold lookK
  rw [List.find?_map]
  rfl
theorem nmd_hands (hs : List Hn) : Nmd (hs.map Hn.d) := fun d hd => by
  obtain ⟨k, _, rfl⟩ := List.mem_map.mp hd
  exact ⟨_, _, rfl⟩
theorem find_hands (m : Mk0) (n : Str) : (m.hands.map Hn.d).find? (hdIs n) = (lookH m n).map Hn.d := by
  unfold lookH
  rw [List.find?_map]
  rfl
/-! ### promises -/
def spSortOf : Sp := sp2 fun a b H Q => ∃ ks k, Im H a (kindsD ks) ∧ b = .str k ∧ (∀ kd, lookK ks k = some kd → Q (.str (sortS kd.alt)) H) ∧ (lookK ks k = none → Q .non H)
def spPartsOf : Sp := sp2 fun a b H Q => ∃ ks k kd, Im H a (kindsD ks) ∧ b = .str k ∧ lookK ks k = some kd ∧ ∀ v, Im H v (partsD kd.parts) → Q v H
def spHandOf : Sp := sp2 fun a b H Q => ∃ m n hd, Im H a (Mk0.d m) ∧ b = .str n ∧ lookH m n = some hd ∧ ∀ v, Im H v hd.d → Q v H
def spNought (n : Nat) : Sp := sp2 fun a b H Q => ∃ ks k, Im H a (kindsD ks) ∧ b = .str k ∧ lookK ks "num" = none ∧ LvK ks n k ∧ (∀ kd ∈ ks, kd.parts.length ≤ 1000) ∧ ∀ H' v, Same H H' → Im H' v (nt ks n k) → Q v H'
def spField : Sp := sp3 fun a b c H Q => ∃ ks k vs kd f p d, ∃ j : Nat, Im H a (kindsD ks) ∧ Im H b (.tup [.str k, .tup vs]) ∧ c = .str f ∧ lookK ks k = some kd ∧ kd.parts.length ≤ 1000 ∧ (kd.parts.map (·.1)).Nodup ∧ kd.parts[j]? = some (f, p) ∧ vs[j]? = some d ∧
  ∀ H' v, Same H H' → Im H' v d → Q v H'
def spTwo : Sp := sp3 fun a b c H Q => ∃ s i j, a = .str s ∧ b = .int i ∧ c = .int j ∧ (-(2 ^ 64) < i ∧ i < 2 ^ 64) ∧ Q (.int (two s i j)) H
def spWorth (n : Nat) : Sp := sp3 fun a b c H Q => ∃ ks ρ d v kvs bx, Im H a (kindsD ks) ∧ Im H b d ∧ c = .ref bx ∧ Rd H bx (.dK kvs) ∧ KvI H kvs ρ ∧ Ev ks n ρ d v ∧ ∀ H' x, Same H H' → Im H' x v → Q x H'
section
variable {P : Program} {w : World} {K : PySem.W.Frag} {mg : Str → Option Value} {base : Heap}
/- kind_told: slots 0 kinds 1 name 2 told -/
theorem sc_kind_told : FnScope ["kinds", "name", "told"] ["kinds", "name"] (defScope s_kind_told) := ⟨rfl, rfl, rfl, by decide +kernel, rfl, by decide +kernel, by decide +kernel⟩
theorem ok_kind_told (T : Txt K mg) : C8.Cal P w K mg base 1 "kind_told" spNamed [] := by
  refine mkCal (f_kind_told T) (g_kind_told T) sc_kind_told (fun _ _ _ _ _ _ us hl => match us, hl with | [_, _], _ => rfl) (fun vs H Q E h => ?_) (fun vs H Q E h => ?_)
  · obtain ⟨a, b, rfl, _⟩ := sp2_len h
    rfl
  obtain ⟨a, b, rfl, h⟩ := sp2_len h
  intro cdv A outer s E hr
  have hu := hu_of hr
  obtain ⟨ds, nm, h1, rfl, hn, k1, k2⟩ := h
  obtain ⟨p, xs, rfl, e, l⟩ := im_tup h1
  refine ⟨_, (pss_cons (ps_for PassesOwn.never rfl (pi_tup (pv 0)) (pg_name (i := 2) sc_kind_told.nd rfl (by first | exact .inl rfl | exact .inr rfl)) (pss_one (ps_if (pt_cmpR op_eq (pe_ix ix_tup (pv 2) pe_int (fun _ _ => rfl)) (pv 1) (nomark _)) (pss_one (ps_ret (pv 2))) pss_nil)))
        (pss_one (ps_ret pe_non))), ?_⟩
  refine ⟨_, rfl, p, rfl, ⟨_, SqT.of e⟩, for_tup (xs := xs) (fun i σ H' => H' = H ∧ (∃ o, σ = [some (.ref p), some (.str nm), o]) ∧ (ds.take i).find? (hdIs nm) = none) ⟨rfl, ⟨_, rfl⟩, rfl⟩ (fun i σ H' _ q => by rw [q.1]; exact SqT.of e) ?_ ?_⟩
  · rintro i x σ H' hx ⟨rfl, ⟨o, rfl⟩, hf⟩
    obtain ⟨d, hd, im⟩ := l.get' hx
    obtain ⟨s1, r, rfl⟩ := hn d (List.mem_of_getElem? hd)
    obtain ⟨q, ys, rfl, eq, ly⟩ := im_tup im
    obtain ⟨z, zs, rfl, hz, _⟩ := iml_cons ly
    cases im_str hz
    refine ⟨_, rfl, q, _, _, _, rfl, rfl, SqT.of eq, at0, _, rfl, rfl, _, rfl, ?_⟩
    by_cases hs : s1 = nm
    · subst hs
      rw [decide_eq_true (rfl : V.str s1 = V.str s1)]
      refine iteT ⟨_, rfl, k1 _ (find_here hd hf (decide_eq_true rfl)) _ im⟩
    · rw [decide_eq_false (fun z => hs (V.str.inj z))]
      refine iteF ⟨rfl, ⟨_, rfl⟩, ?_⟩
      rw [find_take hd hf, if_neg (by show ¬ decide (s1 = nm) = true; rw [decide_eq_false hs]; exact Bool.false_ne_true)]
  · rintro σ H' ⟨rfl, ⟨o, rfl⟩, hf⟩
    rw [l.length, List.take_length] at hf
    exact k2 hf
/- sort_of: slots 0 kinds 1 name 2 told -/
theorem sc_sort_of : FnScope ["kinds", "name", "told"] ["kinds", "name"] (defScope s_sort_of) := ⟨rfl, rfl, rfl, by decide +kernel, rfl, by decide +kernel, by decide +kernel⟩
theorem ok_sort_of (T : Txt K mg) (c_kind_told : C8.Cal P w K mg base 1 "kind_told" spNamed []) : C8.Cal P w K mg base 2 "sort_of" spSortOf [] := by
  refine mkCal (f_sort_of T) (g_sort_of T) sc_sort_of (fun _ _ _ _ _ _ us hl => match us, hl with | [_, _], _ => rfl) (fun vs H Q E h => ?_) (fun vs H Q E h => ?_)
  · obtain ⟨a, b, rfl, _⟩ := sp2_len h
    rfl
  obtain ⟨a, b, rfl, h⟩ := sp2_len h
  intro cdv A outer s E hr
  have hu := hu_of hr
  obtain ⟨ks, k, h1, rfl, k1, k2⟩ := h
  refine ⟨_, (pss_cons (ps_set (i := 2) sc_sort_of.nd rfl (by first | exact .inl rfl | exact .inr rfl) (C8.pe_c c_kind_told hr (by omega) rfl (pa_cons (pv 0) (pa_cons (pv 1) pa_nil))))
        (pss_cons (ps_if (pt_cmpR op_isN (pv 2) pe_non (nomark _)) (pss_one (ps_ret pe_non)) pss_nil)
        (pss_one (ps_ret (pe_ix ix_tup (pv 2) pe_int (fun _ _ => rfl)))))), ?_⟩
  refine ⟨_, rfl, _, rfl, _, k, h1, rfl, nmd_kinds ks, fun d hd v im => ?_, fun hd => ?_⟩
  · rw [find_kinds] at hd
    cases e : lookK ks k with
    | none => rw [e] at hd; cases hd
    | some kd =>
      rw [e] at hd
      cases hd
      obtain ⟨p, x1, x2, x3, rfl, ep, i1, i2, i3⟩ := im3 im
      cases im_str i2
      refine ⟨_, rfl, rfl, _, rfl, ?_⟩
      exact ⟨_, rfl, p, _, _, _, rfl, rfl, SqT.of ep, at1, k1 kd e⟩
  · rw [find_kinds] at hd
    cases e : lookK ks k with
    | none => exact ⟨_, rfl, rfl, _, rfl, k2 e⟩
    | some kd => rw [e] at hd; cases hd
/- parts_of: slots 0 kinds 1 name -/
theorem sc_parts_of : FnScope ["kinds", "name"] ["kinds", "name"] (defScope s_parts_of) := ⟨rfl, rfl, rfl, by decide +kernel, rfl, by decide +kernel, by decide +kernel⟩
theorem ok_parts_of (T : Txt K mg) (c_kind_told : C8.Cal P w K mg base 1 "kind_told" spNamed []) : C8.Cal P w K mg base 2 "parts_of" spPartsOf [] := by
  refine mkCal (f_parts_of T) (g_parts_of T) sc_parts_of (fun _ _ _ _ _ _ us hl => match us, hl with | [_, _], _ => rfl) (fun vs H Q E h => ?_) (fun vs H Q E h => ?_)
  · obtain ⟨a, b, rfl, _⟩ := sp2_len h
    rfl
  obtain ⟨a, b, rfl, h⟩ := sp2_len h
  intro cdv A outer s E hr
  have hu := hu_of hr
  obtain ⟨ks, k, kd, h1, rfl, e, k1⟩ := h
  refine ⟨_, (pss_one (ps_ret (pe_ix ix_tup (C8.pe_c c_kind_told hr (by omega) rfl (pa_cons (pv 0) (pa_cons (pv 1) pa_nil))) pe_int (fun _ _ => rfl)))), ?_⟩
  refine ⟨_, rfl, _, rfl, _, k, h1, rfl, nmd_kinds ks, fun d hd v im => ?_, fun hd => ?_⟩
  · rw [find_kinds, e] at hd
    cases hd
    obtain ⟨p, x1, x2, x3, rfl, ep, i1, i2, i3⟩ := im3 im
    exact ⟨p, _, _, _, rfl, rfl, SqT.of ep, at2, k1 _ i3⟩
  · rw [find_kinds, e] at hd
    cases hd
/- hand_of: slots 0 make 1 h -/
theorem sc_hand_of : FnScope ["make", "h"] ["make", "h"] (defScope s_hand_of) := ⟨rfl, rfl, rfl, by decide +kernel, rfl, by decide +kernel, by decide +kernel⟩
theorem ok_hand_of (T : Txt K mg) (c_named : C8.Cal P w K mg base 1 "named" spNamed []) : C8.Cal P w K mg base 2 "hand_of" spHandOf [] := by
  refine mkCal (f_hand_of T) (g_hand_of T) sc_hand_of (fun _ _ _ _ _ _ us hl => match us, hl with | [_, _], _ => rfl) (fun vs H Q E h => ?_) (fun vs H Q E h => ?_)
  · obtain ⟨a, b, rfl, _⟩ := sp2_len h
    rfl
  obtain ⟨a, b, rfl, h⟩ := sp2_len h
  intro cdv A outer s E hr
  have hu := hu_of hr
  obtain ⟨m, k, hd, h1, rfl, e, k1⟩ := h
  obtain ⟨p, x1, x2, x3, rfl, ep, i1, i2, i3⟩ := im3 h1
  refine ⟨_, (pss_one (ps_ret (C8.pe_c c_named hr (by omega) rfl (pa_cons (pe_ix ix_tup (pv 0) pe_int (fun _ _ => rfl)) (pa_cons (pv 1) pa_nil))))), ?_⟩
  refine ⟨_, rfl, p, _, _, _, rfl, rfl, SqT.of ep, at2, _, rfl, _, k, i3, rfl, nmd_hands m.hands, fun d he v im => ?_, fun he => ?_⟩
  · rw [find_hands, e] at he
    cases he
    exact k1 _ im
  · rw [find_hands, e] at he
    cases he
end
end SwK
set_option maxHeartbeats 4000000
/-! noughts, fields, terms' values -/
namespace SwK
open PySem PySem.Spec PyProof.Rows L2
theorem iml_map {H : Hp} {α : Type} {f : α → Da} {xs : List V} {l : List α} (h : ImL H xs (l.map f)) {i : Nat} {x : V} (e : xs[i]? = some x) : ∃ a, l[i]? = some a ∧ Im H x (f a) := by
  obtain ⟨d, h1, h2⟩ := h.get' e
  rw [List.getElem?_map] at h1
  cases q : l[i]? with
  | none => rw [q] at h1; cases h1
  | some a =>
    rw [q] at h1
    cases h1
    exact ⟨a, rfl, h2⟩
theorem take_snoc {α : Type} {l : List α} {i : Nat} {a : α} (e : l[i]? = some a) : l.take (i + 1) = l.take i ++ [a] := by
  rw [List.take_succ, e]
  rfl
theorem lt_size {n : Nat} (h : n ≤ 100000) : n < sizeLine := Nat.lt_of_le_of_lt h (by decide)
theorem le_size {n : Nat} (h : n ≤ 100000) : n ≤ sizeLine := Nat.le_of_lt (lt_size h)
theorem nt_num {ks : List Kd} (hn : lookK ks "num" = none) : ∀ n, nt ks n "num" = .int 0
  | 0 => rfl
  | n + 1 => by
    show (match lookK ks "num" with | none => Da.int 0 | some kd => _) = _
    rw [hn]
theorem nt_rec {ks : List Kd} {n : Nat} {k : Str} {kd : Kd} (h : lookK ks k = some kd) (a : kd.alt = false) : nt ks (n + 1) k = .tup [.str k, .tup (kd.parts.map fun p => nt ks n p.2)] := by
  show (match lookK ks k with | none => Da.int 0 | some kd => _) = _
  rw [h]
  show (match kd.alt with | true => _ | false => _) = _
  rw [a]
theorem nt_alt {ks : List Kd} {n : Nat} {k : Str} {kd : Kd} {p : Str × Str} {r : List (Str × Str)} (h : lookK ks k = some kd) (a : kd.alt = true) (hp : kd.parts = p :: r) : nt ks (n + 1) k = .tup [.str k, .str p.1, nt ks n p.2] := by
  show (match lookK ks k with | none => Da.int 0 | some kd => _) = _
  rw [h]
  show (match kd.alt with | true => (match kd.parts with | [] => _ | p :: _ => _) | false => _) = _
  rw [a, hp]
theorem lcY {f : Bool → Hp → Prop} {σ : L2.St} {H : Hp} (h : f true H) : tYes σ H f := h
/-- the list that a comprehension has filled so far -/
def Filled (H0 : Hp) (D : Addr) (ds : List Da) (H : Hp) : Prop := Same H0 H ∧ ∃ acc, H D = some (.lst acc) ∧ ImL H acc ds
section
variable {P : Program} {w : World} {K : PySem.W.Frag} {mg : Str → Option Value} {base : Heap}
/- nought: slots 0 kinds 1 kind 2 parts 3 part -/
theorem sc_nought : FnScope ["kinds", "kind", "parts", "part"] ["kinds", "kind"] (defScope s_nought) := ⟨rfl, rfl, rfl, by decide +kernel, rfl, by decide +kernel, by decide +kernel⟩
theorem ok_nought (T : Txt K mg) (c_sort_of : C8.Cal P w K mg base 2 "sort_of" spSortOf []) (c_parts_of : C8.Cal P w K mg base 2 "parts_of" spPartsOf []) :
    ∀ n : Nat, C8.Cal P w K mg base (3 + n) "nought" (spNought n) []
  | 0 => by
    refine mkCal (f_nought T) (g_nought T) sc_nought (fun _ _ _ _ _ _ us hl => match us, hl with | [_, _], _ => rfl) (fun vs H Q E h => ?_) (fun vs H Q E h => ?_)
    · obtain ⟨a, b, rfl, _⟩ := sp2_len h
      rfl
    obtain ⟨a, b, rfl, h⟩ := sp2_len h
    intro cdv A outer s E hr
    have hu := hu_of hr
    obtain ⟨ks, k, h1, rfl, hn, hl, hf, k1⟩ := h
    have e : k = "num" := hl
    subst e
    refine ⟨_, pss_cons (ps_if (pt_cmpR op_eq (pv 1) pe_str (nomark _)) (pss_one (ps_ret pe_int)) pss_nil) pss_never, ?_⟩
    refine ⟨_, rfl, rfl, _, rfl, ?_⟩
    rw [decide_eq_true (rfl : V.str "num" = V.str "num")]
    refine iteT (k1 _ _ (Same.refl _) ?_)
    exact .int 0
  | n + 1 => by
    have c_nought := ok_nought T c_sort_of c_parts_of n
    show C8.Cal P w K mg base ((3 + n) + 1) "nought" (spNought (n + 1)) []
    refine mkCal (f_nought T) (g_nought T) sc_nought (fun _ _ _ _ _ _ us hl => match us, hl with | [_, _], _ => rfl) (fun vs H Q E h => ?_) (fun vs H Q E h => ?_)
    · obtain ⟨a, b, rfl, _⟩ := sp2_len h
      rfl
    obtain ⟨a, b, rfl, h⟩ := sp2_len h
    intro cdv A outer s E hr
    have hu := hu_of hr
    obtain ⟨ks, k, h1, rfl, hn, hl, hf, k1⟩ := h
    refine ⟨_, (pss_cons (ps_if (pt_cmpR op_eq (pv 1) pe_str (nomark _)) (pss_one (ps_ret pe_int)) pss_nil)
        (pss_cons (ps_set (i := 2) sc_nought.nd rfl (by first | exact .inl rfl | exact .inr rfl) (C8.pe_c c_parts_of hr (by omega) rfl (pa_cons (pv 0) (pa_cons (pv 1) pa_nil))))
        (pss_cons (ps_if (pt_cmpR op_eq (C8.pe_c c_sort_of hr (by omega) rfl (pa_cons (pv 0) (pa_cons (pv 1) pa_nil))) pe_str (nomark _)) (pss_one (ps_ret (pe_tup (pa_cons (pv 1) (pa_cons (pe_callTy call_tuple_of rfl (z_tuple T) (by decide +kernel) (pa_cons (pe_lc (own := [("part", 3)]) rfl sc_nought.nd (pi_tup (pv 2)) (blkOk_by (N := ["kinds", "kind", "parts", "part"]) (sc := defScope s_nought) (by decide +kernel)) (fun _ _ _ _ _ => (pg_name (i := 3) sc_nought.nd rfl (by first | exact .inl rfl | exact .inr rfl))) (fun _ _ _ _ _ => pts_nil) (fun _ _ _ _ _ => (C8.pe_c c_nought hr (by omega) rfl (pa_cons (pv 0) (pa_cons (pe_ix (ixT (K := K) rfl) (pv 3) pe_int (fun _ _ => rfl)) pa_nil))))) pa_nil)) pa_nil))))) pss_nil)
        (pss_one (ps_ret (pe_tup (pa_cons (pv 1) (pa_cons (pe_ix ix_tup (pe_ix ix_tup (pv 2) pe_int (fun _ _ => rfl)) pe_int (fun _ _ => rfl)) (pa_cons (C8.pe_c c_nought hr (by omega) rfl (pa_cons (pv 0) (pa_cons (pe_ix ix_tup (pe_ix ix_tup (pv 2) pe_int (fun _ _ => rfl)) pe_int (fun _ _ => rfl)) pa_nil))) pa_nil))))))))), ?_⟩
    refine ⟨_, rfl, rfl, _, rfl, ?_⟩
    by_cases e : k = "num"
    · subst e
      rw [decide_eq_true (rfl : V.str "num" = V.str "num")]
      refine iteT (k1 _ _ (Same.refl _) ?_)
      rw [nt_num hn]
      exact .int 0
    rw [decide_eq_false (fun z => e (V.str.inj z))]
    refine iteF ?_
    rcases hl with z | ⟨kd, l1, l2, l3⟩
    · exact absurd z e
    refine ⟨_, rfl, _, rfl, ks, k, kd, h1, rfl, l1, fun pv hp => ?_⟩
    obtain ⟨pa, po, pxs, rfl, ep, _, ip⟩ := im_pt hp
    refine ⟨_, rfl, _, rfl, ks, k, h1, rfl, fun kd' z => ?_, fun z => by rw [l1] at z; cases z⟩
    rw [l1] at z
    cases z
    refine ⟨rfl, _, rfl, ?_⟩
    cases ha : kd.alt with
    | false =>
      refine iteT ?_
      refine ⟨_, rfl, _, rfl, pa, rfl, ⟨pxs, sqT_frz ep⟩, fun D hD => lc_tup (K := K) (a := pa) (xs := pxs) (fun i H' => Filled _ D ((kd.parts.take i).map fun p => nt ks n p.2) H') ⟨same_new hD, [], upd_same, .nil⟩
        (fun i H' _ q => sqT_frz (q.1 _ _ ep)) (fun i x H' hx q => ?_) (fun H' q => ?_)⟩
      · obtain ⟨s1, acc, hacc, iacc⟩ := q
        obtain ⟨p, hp1, ix⟩ := iml_map ip hx
        have ix' := ix.mono (Tk.of s1)
        obtain ⟨qa, y1, y2, rfl, eq, i1, i2⟩ := im2 ix'
        cases im_str i2
        refine ⟨rfl, lcY (iteT ?_)⟩
        refine ⟨_, rfl, _, rfl, qa, _, _, _, rfl, rfl, SqT.of eq, at1, ks, p.2, h1.mono (Tk.of s1), rfl, hn, l3 p (List.mem_of_getElem? hp1), hf, fun H2 v s2 iv => ?_⟩
        have hlen : acc.length ≤ 1000 := by
          rw [iacc.length, List.length_map, List.length_take]
          exact Nat.le_trans (Nat.min_le_right _ _) (hf kd (lookK_mem l1).1)
        refine ⟨acc, s2 _ _ hacc, lt_size (by omega), ?_, acc ++ [v], upd_same, ?_⟩
        · intro b o hb
          have hb2 := s2 _ _ (s1 _ _ hb)
          rw [upd_ne (ne_of_none hb hD)]
          exact hb2
        · rw [take_snoc hp1, List.map_append]
          have tk : Tk H2 (upd H2 D (.lst (acc ++ [v]))) := fun b o hb t => by
            rw [upd_ne (ne_of hb (s2 _ _ hacc) (by rintro rfl; exact t))]
            exact hb
          exact ((iacc.mono (Tk.of s2)).append (ImL.one iv)).mono tk
      · obtain ⟨s1, acc, hacc, iacc⟩ := q
        have hlen : pxs.length = kd.parts.length := by rw [ip.length, List.length_map]
        rw [hlen, List.take_length] at iacc
        refine ⟨D, acc, rfl, .inl ⟨SqL.of hacc, fun t ht => ⟨le_size (by show 2 ≤ 100000; decide), fun q hq => ?_⟩⟩⟩
        have hs : Same _ (upd (upd H' t (.tup acc)) q (.tup [.str k, .ref t])) := (s1.trans (same_new ht)).trans (same_new hq)
        refine k1 _ _ hs ?_
        rw [nt_rec l1 ha]
        exact im_new hq (.cons (.str k) (.cons (im_new ht iacc) .nil))
    | true =>
      refine iteF ?_
      cases hp : kd.parts with
      | nil => exact absurd hp (l2 ha)
      | cons p r =>
        rw [hp] at ip
        obtain ⟨x0, xr, rfl, i0, _⟩ := iml_cons ip
        obtain ⟨qa, y1, y2, rfl, eq, i1, i2⟩ := im2 i0
        cases im_str i1
        cases im_str i2
        refine ⟨_, rfl, _, rfl, pa, _, _, _, rfl, rfl, sqT_frz ep, at0, qa, _, _, _, rfl, rfl, SqT.of eq, at0, ?_⟩
        refine ⟨_, rfl, _, rfl, pa, _, _, _, rfl, rfl, sqT_frz ep, at0, qa, _, _, _, rfl, rfl, SqT.of eq, at1, ks, p.2, h1, rfl, hn, l3 p (by rw [hp]; exact List.mem_cons_self), hf, fun H2 v s2 iv => ⟨le_size (by show 3 ≤ 100000; decide), fun q hq => ?_⟩⟩
        refine k1 _ _ (s2.trans (same_new hq)) ?_
        rw [nt_alt l1 ha hp]
        exact im_new hq (.cons (.str k) (.cons (.str p.1) (.cons iv .nil)))
end
end SwK
set_option maxHeartbeats 4000000
/-! terms' values -/
namespace SwK
open PySem PySem.Spec PyProof.Rows L2
theorem str_all {l : List Str} : (l.map V.str).all flatV = true := by
  rw [List.all_map]
  exact List.all_eq_true.mpr fun _ _ => rfl
theorem eqV_str (x y : Str) : eqV (.str x) (.str y) = (x == y) := rfl
/-- what worth_of_case does: the arm of the tag -/
def spCase (n : Nat) : Sp := sp3 fun a b c H Q => ∃ (ks : List Kd) (ρ : List (Str × Da)) (v : Da) (kvs : List (Key × V)) (bx : Addr) (a' : Da) (arms : List Da) (k t : Str) (w : Da) (j : Nat) (y : Str) (e : Da),
  Im H a (kindsD ks) ∧ Im H b (.tup [.str "case", a', .tup arms]) ∧ c = .ref bx ∧ Rd H bx (.dK kvs) ∧ KvI H kvs ρ ∧ Ev ks n ρ a' (.tup [.str k, .str t, w]) ∧ (∀ m ∈ arms, ∃ t' y' e', m = Da.tup [.str t', .str y', e']) ∧ arms[j]? = some (Da.tup [.str t, .str y, e]) ∧
  (∀ i < j, ∀ t' r, arms[i]? = some (Da.tup (.str t' :: r)) → t' ≠ t) ∧ ρ.length < 1000 ∧ Ev ks n (putE ρ y w) e v ∧ ∀ H' x, Same H H' → Im H' x v → Q x H'
section
variable {P : Program} {w : World} {K : PySem.W.Frag} {mg : Str → Option Value} {base : Heap}
/- field: slots 0 kinds 1 value 2 name 3 names 4 part -/
theorem sc_field : FnScope ["kinds", "value", "name", "names", "part"] ["kinds", "value", "name"] (defScope s_field) := ⟨rfl, rfl, rfl, by decide +kernel, rfl, by decide +kernel, by decide +kernel⟩
theorem ok_field (T : Txt K mg) (c_parts_of : C8.Cal P w K mg base 2 "parts_of" spPartsOf []) : C8.Cal P w K mg base 3 "field" spField [] := by
  refine mkCal (f_field T) (g_field T) sc_field (fun _ _ _ _ _ _ us hl => match us, hl with | [_, _, _], _ => rfl) (fun vs H Q E h => ?_) (fun vs H Q E h => ?_)
  · obtain ⟨a, b, c, rfl, _⟩ := sp3_len h
    rfl
  obtain ⟨a, b, c, rfl, h⟩ := sp3_len h
  intro cdv A outer s E hr
  have hu := hu_of hr
  obtain ⟨ks, k, vs, kd, f, p, d, j, h1, h2, rfl, hk, hf, hn, hj, hv, k1⟩ := h
  obtain ⟨va, x1, x2, rfl, ev, i1, i2⟩ := im2 h2
  cases im_str i1
  obtain ⟨ua, us, rfl, eu, iu⟩ := im_tup i2
  refine ⟨_, (pss_cons (ps_setLc (i := 3) (own := [("part", 4)]) rfl sc_field.nd rfl rfl (sw_true rfl rfl rfl (by decide +kernel)) (pi_tup (C8.pe_c c_parts_of hr (by omega) rfl (pa_cons (pv 0) (pa_cons (pe_ix ix_tup (pv 1) pe_int (fun _ _ => rfl)) pa_nil)))) (blkOk_by (N := ["kinds", "value", "name", "names", "part"]) (sc := defScope s_field) (by decide +kernel)) (fun _ _ _ _ _ => (pg_name (i := 4) sc_field.nd rfl (by first | exact .inl rfl | exact .inr rfl))) (fun _ _ _ _ _ => pts_nil) (fun _ _ _ _ _ => (pe_ix (ixT (K := K) rfl) (pv 4) pe_int (fun _ _ => rfl))))
        (pss_one (ps_ret (pe_ix ix_tup (pe_ix ix_tup (pv 1) pe_int (fun _ _ => rfl)) (pe_bm PySem.F.plainAttrs_list PySem.F.slot_list_index PySem.F.type_list_index mt_index (pv 3) (pa_cons (pv 2) pa_nil)) (fun _ _ => rfl))))), ?_⟩
  refine ⟨_, rfl, _, rfl, va, _, _, _, rfl, rfl, SqT.of ev, at0, ks, k, kd, h1, rfl, hk, fun pv hp => ?_⟩
  obtain ⟨pa, po, pxs, rfl, ep, _, ip⟩ := im_pt hp
  refine ⟨pa, rfl, ⟨pxs, sqT_frz ep⟩, fun D hD => lc_tup (K := K) (a := pa) (xs := pxs) (fun i H' => Same H H' ∧ H' D = some (.lst ((kd.parts.take i).map fun p => V.str p.1))) ⟨same_new hD, upd_same⟩ (fun i H' _ q => sqT_frz (q.1 _ _ ep)) (fun i x H' hx q => ?_) (fun H' q => ?_)⟩
  · obtain ⟨s1, hacc⟩ := q
    obtain ⟨p1, hp1, ix⟩ := iml_map ip hx
    obtain ⟨qa, y1, y2, rfl, eq, i1, i2⟩ := im2 (ix.mono (Tk.of s1))
    cases im_str i1
    refine ⟨rfl, lcY (iteT ?_)⟩
    refine ⟨_, rfl, qa, _, _, _, rfl, rfl, SqT.of eq, at0, _, hacc, ?_, ?_, ?_⟩
    · rw [List.length_map, List.length_take]
      exact lt_size (by omega)
    · intro b o hb
      rw [upd_ne (ne_of_none hb hD)]
      exact s1 _ _ hb
    · rw [upd_same, take_snoc hp1, List.map_append]
      rfl
  · obtain ⟨s1, hacc⟩ := q
    have hlen : pxs.length = kd.parts.length := by rw [ip.length, List.length_map]
    rw [hlen, List.take_length] at hacc
    obtain ⟨u, eu2, iu2⟩ := iu.get hv
    have e2 : kd.parts.map (fun p => V.str p.1) = (kd.parts.map (·.1)).map V.str := by rw [List.map_map]; rfl
    have hj1 : (kd.parts.map (·.1))[j]? = some f := by rw [List.getElem?_map, hj]; rfl
    refine ⟨_, rfl, va, _, _, _, rfl, rfl, SqT.of (s1 _ _ ev), at1, _, rfl, .inl ⟨rfl, _, SqL.of hacc⟩, _, rfl, D, _, .str f, j, .str f, rfl, rfl, SqL.of hacc, rfl, ?_, ?_, ?_, fun m z' hm hz => ?_, ua, _, _, _, rfl, rfl, SqT.of (s1 _ _ eu), atI_nat eu2, k1 _ _ s1 (iu2.mono (Tk.of s1))⟩
    · rw [e2]
      exact str_all
    · rw [e2, List.getElem?_map, hj1]
      rfl
    · rw [eqV_str]
      exact beq_self_eq_true f
    · rw [e2, List.getElem?_map] at hz
      cases q : (kd.parts.map (·.1))[m]? with
      | none => rw [q] at hz; cases hz
      | some z =>
        rw [q] at hz
        cases hz
        rw [eqV_str]
        refine beq_eq_false_iff_ne.mpr fun e => ?_
        subst e
        have := nd_ix hn q hj1
        omega
/- worth_of_two: slots 0 sign 1 one 2 other -/
theorem sc_worth_of_two : FnScope ["sign", "one", "other"] ["sign", "one", "other"] (defScope s_worth_of_two) := ⟨rfl, rfl, rfl, by decide +kernel, rfl, by decide +kernel, by decide +kernel⟩
theorem ok_worth_of_two (T : Txt K mg) : C8.Cal P w K mg base 1 "worth_of_two" spTwo [] := by
  refine mkCal (f_worth_of_two T) (g_worth_of_two T) sc_worth_of_two (fun _ _ _ _ _ _ us hl => match us, hl with | [_, _, _], _ => rfl) (fun vs H Q E h => ?_) (fun vs H Q E h => ?_)
  · obtain ⟨a, b, c, rfl, _⟩ := sp3_len h
    rfl
  obtain ⟨a, b, c, rfl, h⟩ := sp3_len h
  intro cdv A outer s E hr
  have hu := hu_of hr
  obtain ⟨s0, i, j, rfl, rfl, rfl, hb, k1⟩ := h
  unfold two at k1
  refine ⟨_, (pss_cons (ps_if (pt_cmpR op_eq (pv 0) pe_str (nomark _)) (pss_one (ps_ret (pe_op op_mod (pe_op op_add (pv 1) (pv 2)) (C8.pe_gc rfl (k_WIDE T))))) pss_nil)
        (pss_cons (ps_if (pt_cmpR op_eq (pv 0) pe_str (nomark _)) (pss_one (ps_ret (pe_op op_mod (pe_op op_sub (pv 1) (pv 2)) (C8.pe_gc rfl (k_WIDE T))))) pss_nil)
        (pss_cons (ps_if (pt_cmpR op_eq (pv 0) pe_str (nomark _)) (pss_one (ps_ret (pe_op op_mod (pe_op op_mul (pv 1) (pv 2)) (C8.pe_gc rfl (k_WIDE T))))) pss_nil)
        (pss_cons (ps_if (pt_cmpR op_eq (pv 0) pe_str (nomark _)) (pss_one (ps_ret (pe_callTy call_int1 rfl (z_int T) (by decide +kernel) (pa_cons (pe_cmpR op_lt (pv 1) (pv 2) (nomark _)) pa_nil)))) pss_nil)
        (pss_one (ps_ret (pe_callTy call_int1 rfl (z_int T) (by decide +kernel) (pa_cons (pe_cmpR op_eq (pv 1) (pv 2) (nomark _)) pa_nil)))))))), ?_⟩
  refine ⟨_, rfl, rfl, _, rfl, ?_⟩
  by_cases e1 : s0 = "+"
  · subst e1
    rw [if_pos rfl] at k1
    rw [decide_eq_true (rfl : V.str "+" = V.str "+")]
    exact iteT ⟨_, rfl, _, rfl, _, _, rfl, rfl, _, _, rfl, rfl, (by show (0 : Int) < 4294967296; decide), k1⟩
  rw [if_neg e1] at k1
  rw [decide_eq_false (fun z => e1 (V.str.inj z))]
  refine iteF ⟨_, rfl, rfl, _, rfl, ?_⟩
  by_cases e2 : s0 = "-"
  · subst e2
    rw [if_pos rfl] at k1
    rw [decide_eq_true (rfl : V.str "-" = V.str "-")]
    exact iteT ⟨_, rfl, _, rfl, _, _, rfl, rfl, _, _, rfl, rfl, (by show (0 : Int) < 4294967296; decide), k1⟩
  rw [if_neg e2] at k1
  rw [decide_eq_false (fun z => e2 (V.str.inj z))]
  refine iteF ⟨_, rfl, rfl, _, rfl, ?_⟩
  by_cases e3 : s0 = "*"
  · subst e3
    rw [if_pos rfl] at k1
    rw [decide_eq_true (rfl : V.str "*" = V.str "*")]
    exact iteT ⟨_, rfl, _, rfl, _, _, rfl, rfl, .inl hb, _, _, rfl, rfl, (by show (0 : Int) < 4294967296; decide), k1⟩
  rw [if_neg e3] at k1
  rw [decide_eq_false (fun z => e3 (V.str.inj z))]
  refine iteF ⟨_, rfl, rfl, _, rfl, ?_⟩
  by_cases e4 : s0 = "<"
  · subst e4
    rw [if_pos rfl] at k1
    rw [decide_eq_true (rfl : V.str "<" = V.str "<")]
    refine iteT ⟨_, rfl, _, rfl, _, _, rfl, rfl, .inr ⟨_, rfl, ?_⟩⟩
    by_cases q : i < j
    · rw [if_pos q] at k1
      rw [decide_eq_true q]
      exact k1
    · rw [if_neg q] at k1
      rw [decide_eq_false q]
      exact k1
  rw [if_neg e4] at k1
  rw [decide_eq_false (fun z => e4 (V.str.inj z))]
  refine iteF ⟨_, rfl, _, rfl, rfl, .inr ⟨_, rfl, ?_⟩⟩
  by_cases q : i = j
  · rw [if_pos q] at k1
    rw [decide_eq_true (congrArg V.int q)]
    exact k1
  · rw [if_neg q] at k1
    rw [decide_eq_false (fun z => q (V.int.inj z))]
    exact k1
/- worth_of_case: slots 0 kinds 1 term 2 boxes 3 kind 4 tag 5 value 6 name 7 x 8 one 9 inner -/
theorem sc_worth_of_case : FnScope ["kinds", "term", "boxes", "kind", "tag", "value", "name", "x", "one", "inner"] ["kinds", "term", "boxes"] (defScope s_worth_of_case) := ⟨rfl, rfl, rfl, by decide +kernel, rfl, by decide +kernel, by decide +kernel⟩
theorem ok_worth_of_case (T : Txt K mg) {n : Nat} {k : Nat} (c_worth : C8.Cal P w K mg base k "worth" (spWorth n) []) : C8.Cal P w K mg base (k + 1) "worth_of_case" (spCase n) [] := by
  refine mkCal (f_worth_of_case T) (g_worth_of_case T) sc_worth_of_case (fun _ _ _ _ _ _ us hl => match us, hl with | [_, _, _], _ => rfl) (fun vs H Q E h => ?_) (fun vs H Q E h => ?_)
  · obtain ⟨a, b, c, rfl, _⟩ := sp3_len h
    rfl
  obtain ⟨a, b, c, rfl, h⟩ := sp3_len h
  intro cdv A outer s E hr
  have hu := hu_of hr
  obtain ⟨ks, ρ, v, kvs, bx, a', arms, k0, t, w0, j, y, e, h1, h2, rfl, hbx, hkv, hev, hform, hj, hfirst, hlen, hev2, k1⟩ := h
  obtain ⟨ta, y1, y2, y3, rfl, et, i1, i2, i3⟩ := im3 h2
  refine ⟨_, (pss_cons (ps_asg (C8.pe_c c_worth hr (by omega) rfl (pa_cons (pv 0) (pa_cons (pe_ix ix_tup (pv 1) pe_int (fun _ _ => rfl)) (pa_cons (pv 2) pa_nil)))) (pg_tup rfl (pgs_cons (pg_name (i := 3) sc_worth_of_case.nd rfl (by first | exact .inl rfl | exact .inr rfl)) (pgs_cons (pg_name (i := 4) sc_worth_of_case.nd rfl (by first | exact .inl rfl | exact .inr rfl)) (pgs_cons (pg_name (i := 5) sc_worth_of_case.nd rfl (by first | exact .inl rfl | exact .inr rfl)) pgs_nil)))))
        (pss_cons (ps_for PassesOwn.never rfl (pi_tup (pe_ix ix_tup (pv 1) pe_int (fun _ _ => rfl))) (pg_tup rfl (pgs_cons (pg_name (i := 6) sc_worth_of_case.nd rfl (by first | exact .inl rfl | exact .inr rfl)) (pgs_cons (pg_name (i := 7) sc_worth_of_case.nd rfl (by first | exact .inl rfl | exact .inr rfl)) (pgs_cons (pg_name (i := 8) sc_worth_of_case.nd rfl (by first | exact .inl rfl | exact .inr rfl)) pgs_nil)))) (pss_one (ps_if (pt_cmpR op_eq (pv 6) (pv 4) (nomark _)) (pss_cons (ps_set (i := 9) sc_worth_of_case.nd rfl (by first | exact .inl rfl | exact .inr rfl) (pe_callTy call_dictD rfl (z_dict T) (by decide +kernel) (pa_cons (pv 2) pa_nil)))
        (pss_cons (ps_dput hu (pv 9) (pv 7) (pv 5) rfl)
        (pss_one (ps_ret (C8.pe_c c_worth hr (by omega) rfl (pa_cons (pv 0) (pa_cons (pv 8) (pa_cons (pv 9) pa_nil)))))))) pss_nil)))
        (pss_one (ps_ret (pv 5))))), ?_⟩
  refine ⟨_, rfl, _, rfl, ta, _, _, _, rfl, rfl, SqT.of et, at1, _, rfl, ks, ρ, a', _, kvs, bx, h1, i2, rfl, hbx, hkv, hev, fun H1 x s1 ix => ?_⟩
  obtain ⟨xa, z1, z2, z3, rfl, ex, j1, j2, j3⟩ := im3 ix
  cases im_str j1
  cases im_str j2
  refine ⟨xa, _, rfl, SqT.of ex, rfl, _, _, rfl, _, _, rfl, _, _, rfl, rfl, ?_⟩
  obtain ⟨aa, axs, rfl, ea, ia⟩ := im_tup i3
  refine ⟨_, rfl, ta, _, _, _, rfl, rfl, SqT.of (s1 _ _ et), at2, aa, rfl, ⟨_, SqT.of (s1 _ _ ea)⟩, for_tup (xs := axs) (fun i σ H' => H' = H1 ∧ i ≤ j ∧ ∃ o6 o7 o8 o9, σ = [some a, some (.ref ta), some (.ref bx), some (.str k0), some (.str t), some z3, o6, o7, o8, o9]) ⟨rfl, Nat.zero_le _, _, _, _, _, rfl⟩
    (fun i σ H' _ q => by rw [q.1]; exact SqT.of (s1 _ _ ea)) ?_ ?_⟩
  · rintro i x σ H' hx ⟨rfl, hij, o6, o7, o8, o9, rfl⟩
    obtain ⟨m, hm, im⟩ := (ia.mono (Tk.of s1)).get' hx
    obtain ⟨t', y', e', rfl⟩ := hform m (List.mem_of_getElem? hm)
    obtain ⟨ma, m1, m2, m3, rfl, em, n1, n2, n3⟩ := im3 im
    cases im_str n1
    cases im_str n2
    refine ⟨ma, _, rfl, SqT.of em, rfl, _, _, rfl, _, _, rfl, _, _, rfl, rfl, ?_⟩
    refine ⟨_, rfl, _, rfl, rfl, _, rfl, ?_⟩
    by_cases ett : t' = t
    · subst ett
      rw [decide_eq_true (rfl : V.str t' = V.str t')]
      have eij : i = j := by
        rcases Nat.lt_or_ge i j with q | q
        · exact absurd rfl (hfirst i q t' _ hm)
        · omega
      subst eij
      rw [hm] at hj
      injection hj with hj
      injection hj with hj
      injection hj with _ hj
      injection hj with hj1 hj
      injection hj1 with hj1
      injection hj with hj2 _
      subst hj1 hj2
      refine iteT ?_
      refine ⟨_, rfl, bx, kvs, rfl, rd_same s1 hbx, fun q hq => ?_⟩
      have hq1 : Same H' (upd H' q (.dK kvs)) := same_new hq
      refine ⟨_, rfl, _, rfl, _, rfl, q, _, rfl, DPut.k (k := Sum.inr y') upd_same (lt_size (by rw [hkv.length]; omega)), ?_⟩
      rw [upd_upd]
      have hq2 : Same H' (upd H' q (.dK (putK kvs (Sum.inr y') z3))) := same_new hq
      exact ⟨_, rfl, _, rfl, _, rfl, ks, _, e', v, _, q, h1.mono (Tk.of (s1.trans hq2)), n3.mono (Tk.of hq2), rfl, rd_of upd_same, ((hkv.mono (Tk.of (s1.trans hq2))).put (j3.mono (Tk.of hq2))), hev2, fun H3 x3 s3 ix3 => k1 _ _ ((s1.trans hq2).trans s3) ix3⟩
    · rw [decide_eq_false (fun z => ett (V.str.inj z))]
      refine iteF ⟨rfl, ?_, _, _, _, _, rfl⟩
      rcases Nat.lt_or_ge i j with q | q
      · omega
      · have eij : i = j := by omega
        subst eij
        rw [hm] at hj
        injection hj with hj
        injection hj with hj
        injection hj with hj0 _
        injection hj0 with hj0
        exact absurd hj0 ett
  · rintro σ H' ⟨rfl, hij, _⟩
    have := (List.getElem?_eq_some_iff.mp hj).1
    rw [ia.length] at hij
    omega
end
end SwK
set_option maxHeartbeats 8000000
/-! terms' values: worth -/
namespace SwK
open PySem PySem.Spec PyProof.Rows L2
theorem strT {x : Str} : decide (V.str x = V.str x) = true := decide_eq_true rfl
theorem strF {x y : Str} (h : ¬ x = y) : decide (V.str x = V.str y) = false := decide_eq_false fun z => h (V.str.inj z)
theorem ifTD {x : Str} {A B : Prop} (h : A) : if decide (V.str x = V.str x) = true then A else B := by
  rw [strT]
  exact iteT h
theorem ifFD {x y : Str} {A B : Prop} (hne : ¬ x = y) (h : B) : if decide (V.str x = V.str y) = true then A else B := by
  rw [strF hne]
  exact iteF h
theorem paired_get {α β : Type} {F : α → β → Prop} {l : List α} {m : List β} (h : Paired F l m) : ∀ {j : Nat} {a : α}, l[j]? = some a → ∃ b, m[j]? = some b ∧ F a b := fun e => pairedAt h e
section
variable {P : Program} {w : World} {K : PySem.W.Frag} {mg : Str → Option Value} {base : Heap}
/- worth: slots 0 kinds 1 term 2 boxes 3 word 4 one -/
theorem sc_worth : FnScope ["kinds", "term", "boxes", "word", "one"] ["kinds", "term", "boxes"] (defScope s_worth) := ⟨rfl, rfl, rfl, by decide +kernel, rfl, by decide +kernel, by decide +kernel⟩
theorem ok_worth (T : Txt K mg) (c_field : C8.Cal P w K mg base 3 "field" spField []) (c_worth_of_two : C8.Cal P w K mg base 1 "worth_of_two" spTwo []) :
    ∀ n : Nat, C8.Cal P w K mg base (2 * n + 4) "worth" (spWorth n) []
  | 0 => by
    refine mkCal (k := 3) (f_worth T) (g_worth T) sc_worth (fun _ _ _ _ _ _ us hl => match us, hl with | [_, _, _], _ => rfl) (fun vs H Q E h => ?_) (fun vs H Q E h => ?_)
    · obtain ⟨a, b, c, rfl, _⟩ := sp3_len h
      rfl
    · obtain ⟨a, b, c, rfl, ks, ρ, d, v, kvs, bx, _, _, _, _, _, e, _⟩ := sp3_len h
      exact e.elim
  | n + 1 => by
    have c_worth := ok_worth T c_field c_worth_of_two n
    have c_worth_of_case := ok_worth_of_case T c_worth
    show C8.Cal P w K mg base ((2 * n + 5) + 1) "worth" (spWorth (n + 1)) []
    refine mkCal (f_worth T) (g_worth T) sc_worth (fun _ _ _ _ _ _ us hl => match us, hl with | [_, _, _], _ => rfl) (fun vs H Q E h => ?_) (fun vs H Q E h => ?_)
    · obtain ⟨a, b, c, rfl, _⟩ := sp3_len h
      rfl
    obtain ⟨a, b, c, rfl, h⟩ := sp3_len h
    intro cdv A outer s E hr
    have hu := hu_of hr
    obtain ⟨ks, ρ, d, v, kvs, bx, h1, h2, rfl, hbx, hkv, hev, k1⟩ := h
    refine ⟨_, (pss_cons (ps_set (i := 3) sc_worth.nd rfl (by first | exact .inl rfl | exact .inr rfl) (pe_ix ix_tup (pv 1) pe_int (fun _ _ => rfl)))
        (pss_cons (ps_if (pt_cmpR op_eq (pv 3) pe_str (nomark _)) (pss_one (ps_ret (pe_ix ix_tup (pv 1) pe_int (fun _ _ => rfl)))) pss_nil)
        (pss_cons (ps_if (pt_cmpR op_eq (pv 3) pe_str (nomark _)) (pss_one (ps_ret (pe_dget hu (pv 2) (pe_ix ix_tup (pv 1) pe_int (fun _ _ => rfl)) (fun _ _ => rfl)))) pss_nil)
        (pss_cons (ps_if (pt_cmpR op_eq (pv 3) pe_str (nomark _)) (pss_one (ps_ret (C8.pe_c c_worth_of_two hr (by omega) rfl (pa_cons (pe_ix ix_tup (pv 1) pe_int (fun _ _ => rfl)) (pa_cons (C8.pe_c c_worth hr (by omega) rfl (pa_cons (pv 0) (pa_cons (pe_ix ix_tup (pv 1) pe_int (fun _ _ => rfl)) (pa_cons (pv 2) pa_nil)))) (pa_cons (C8.pe_c c_worth hr (by omega) rfl (pa_cons (pv 0) (pa_cons (pe_ix ix_tup (pv 1) pe_int (fun _ _ => rfl)) (pa_cons (pv 2) pa_nil)))) pa_nil)))))) pss_nil)
        (pss_cons (ps_if (pt_cmpR op_eq (pv 3) pe_str (nomark _)) (pss_one (ps_ret (pe_tup (pa_cons (pe_ix ix_tup (pv 1) pe_int (fun _ _ => rfl)) (pa_cons (pe_callTy call_tuple_of rfl (z_tuple T) (by decide +kernel) (pa_cons (pe_lc (own := [("one", 4)]) rfl sc_worth.nd (pi_tup (pe_ix ix_tup (pv 1) pe_int (fun _ _ => rfl))) (blkOk_by (N := ["kinds", "term", "boxes", "word", "one"]) (sc := defScope s_worth) (by decide +kernel)) (fun _ _ _ _ _ => (pg_name (i := 4) sc_worth.nd rfl (by first | exact .inl rfl | exact .inr rfl))) (fun _ _ _ _ _ => pts_nil) (fun _ _ _ _ _ => (C8.pe_c c_worth hr (by omega) rfl (pa_cons (pv 0) (pa_cons (pv 4) (pa_cons (pv 2) pa_nil)))))) pa_nil)) pa_nil))))) pss_nil)
        (pss_cons (ps_if (pt_cmpR op_eq (pv 3) pe_str (nomark _)) (pss_one (ps_ret (C8.pe_c c_field hr (by omega) rfl (pa_cons (pv 0) (pa_cons (C8.pe_c c_worth hr (by omega) rfl (pa_cons (pv 0) (pa_cons (pe_ix ix_tup (pv 1) pe_int (fun _ _ => rfl)) (pa_cons (pv 2) pa_nil)))) (pa_cons (pe_ix ix_tup (pv 1) pe_int (fun _ _ => rfl)) pa_nil)))))) pss_nil)
        (pss_cons (ps_if (pt_cmpR op_eq (pv 3) pe_str (nomark _)) (pss_one (ps_ret (pe_tup (pa_cons (pe_ix ix_tup (pv 1) pe_int (fun _ _ => rfl)) (pa_cons (pe_ix ix_tup (pv 1) pe_int (fun _ _ => rfl)) (pa_cons (C8.pe_c c_worth hr (by omega) rfl (pa_cons (pv 0) (pa_cons (pe_ix ix_tup (pv 1) pe_int (fun _ _ => rfl)) (pa_cons (pv 2) pa_nil)))) pa_nil)))))) pss_nil)
        (pss_cons (ps_if (pt_cmpR op_eq (pv 3) pe_str (nomark _)) (pss_one (ps_ret (C8.pe_c c_worth_of_case hr (by omega) rfl (pa_cons (pv 0) (pa_cons (pv 1) (pa_cons (pv 2) pa_nil)))))) pss_nil)
        (pss_cons (ps_if (pt_cmpR op_ne (C8.pe_c c_worth hr (by omega) rfl (pa_cons (pv 0) (pa_cons (pe_ix ix_tup (pv 1) pe_int (fun _ _ => rfl)) (pa_cons (pv 2) pa_nil)))) pe_int (nomark _)) (pss_one (ps_ret (C8.pe_c c_worth hr (by omega) rfl (pa_cons (pv 0) (pa_cons (pe_ix ix_tup (pv 1) pe_int (fun _ _ => rfl)) (pa_cons (pv 2) pa_nil)))))) pss_nil)
        (pss_one (ps_ret (C8.pe_c c_worth hr (by omega) rfl (pa_cons (pv 0) (pa_cons (pe_ix ix_tup (pv 1) pe_int (fun _ _ => rfl)) (pa_cons (pv 2) pa_nil))))))))))))))), ?_⟩
    rcases hev with ⟨i, rfl, rfl⟩ | ⟨x, rfl, hx⟩ | ⟨s0, ta, tb, i, j, rfl, ha, hb, hi, rfl⟩ | ⟨k, es, vs, rfl, hes, hp, rfl⟩ | ⟨ta, f, k, vs, kd, j, p, rfl, ha, hk, hf, hn, hj, hv⟩ | ⟨k, t, te, wv, rfl, he, rfl⟩ | ⟨ta, arms, k, t, wv, j, y, te, rfl, ha, hform, hj, hfirst, hlen, he⟩ | ⟨tc, ta, tb, i, rfl, hc, hab⟩
    · -- num
      obtain ⟨p, x1, x2, rfl, ep, i1, i2⟩ := im2 h2
      cases im_str i1
      refine ⟨_, rfl, p, _, _, _, rfl, rfl, SqT.of ep, at0, ?_⟩
      refine ⟨_, rfl, rfl, _, rfl, ifTD ?_⟩
      exact ⟨_, rfl, p, _, _, _, rfl, rfl, SqT.of ep, at1, k1 _ _ (Same.refl _) i2⟩
    · -- box
      obtain ⟨p, x1, x2, rfl, ep, i1, i2⟩ := im2 h2
      cases im_str i1
      cases im_str i2
      refine ⟨_, rfl, p, _, _, _, rfl, rfl, SqT.of ep, at0, ?_⟩
      refine ⟨_, rfl, rfl, _, rfl, ifFD (by decide +kernel) ?_⟩
      refine ⟨_, rfl, rfl, _, rfl, ifTD ?_⟩
      obtain ⟨u, u1, u2⟩ := hkv.has hx
      exact ⟨_, rfl, _, rfl, p, _, _, _, rfl, rfl, SqT.of ep, at1, bx, u, rfl, u1 ▸ dget_s hbx, k1 _ _ (Same.refl _) u2⟩
    · -- op
      obtain ⟨p, x1, x2, x3, x4, rfl, ep, i1, i2, i3, i4⟩ := im4 h2
      cases im_str i1
      cases im_str i2
      refine ⟨_, rfl, p, _, _, _, rfl, rfl, SqT.of ep, at0, ?_⟩
      refine ⟨_, rfl, rfl, _, rfl, ifFD (by decide +kernel) ?_⟩
      refine ⟨_, rfl, rfl, _, rfl, ifFD (by decide +kernel) ?_⟩
      refine ⟨_, rfl, rfl, _, rfl, ifTD ?_⟩
      refine ⟨_, rfl, p, _, _, _, rfl, rfl, SqT.of ep, at1, _, rfl, _, rfl, p, _, _, _, rfl, rfl, SqT.of ep, at2, _, rfl, ks, ρ, ta, _, kvs, bx, h1, i3, rfl, hbx, hkv, ha, fun H1 y1 s1 iy1 => ?_⟩
      cases im_int iy1
      refine ⟨_, rfl, _, rfl, p, _, _, _, rfl, rfl, SqT.of (s1 _ _ ep), at3, _, rfl, ks, ρ, tb, _, kvs, bx, h1.mono (Tk.of s1), i4.mono (Tk.of s1), rfl, rd_same s1 hbx, hkv.mono (Tk.of s1), hb, fun H2 y2 s2 iy2 => ?_⟩
      cases im_int iy2
      exact ⟨s0, i, j, rfl, rfl, rfl, hi, k1 _ _ (s1.trans s2) (.int _)⟩
    · -- rec
      obtain ⟨p, x1, x2, x3, rfl, ep, i1, i2, i3⟩ := im3 h2
      cases im_str i1
      cases im_str i2
      obtain ⟨ea, exs, rfl, ee, ie⟩ := im_tup i3
      refine ⟨_, rfl, p, _, _, _, rfl, rfl, SqT.of ep, at0, ?_⟩
      refine ⟨_, rfl, rfl, _, rfl, ifFD (by decide +kernel) ?_⟩
      refine ⟨_, rfl, rfl, _, rfl, ifFD (by decide +kernel) ?_⟩
      refine ⟨_, rfl, rfl, _, rfl, ifFD (by decide +kernel) ?_⟩
      refine ⟨_, rfl, rfl, _, rfl, ifTD ?_⟩
      refine ⟨_, rfl, p, _, _, _, rfl, rfl, SqT.of ep, at1, ?_⟩
      refine ⟨_, rfl, p, _, _, _, rfl, rfl, SqT.of ep, at2, ea, rfl, ⟨exs, SqT.of ee⟩, fun D hD => lc_tup (K := K) (a := ea) (xs := exs) (fun i H' => Filled H D (vs.take i) H') ⟨same_new hD, [], upd_same, .nil⟩
        (fun i H' _ q => SqT.of (q.1 _ _ ee)) (fun i x H' hx q => ?_) (fun H' q => ?_)⟩
      · obtain ⟨s1, acc, hacc, iacc⟩ := q
        obtain ⟨e1, he1, ix⟩ := (ie.mono (Tk.of s1)).get' hx
        obtain ⟨v1, hv1, hev1⟩ := pairedAt hp he1
        refine ⟨rfl, lcY (iteT ?_)⟩
        refine ⟨_, rfl, _, rfl, _, rfl, ks, ρ, e1, v1, kvs, bx, h1.mono (Tk.of s1), ix, rfl, rd_same s1 hbx, hkv.mono (Tk.of s1), hev1, fun H2 u s2 iu => ?_⟩
        have hlen : acc.length ≤ 1000 := by
          rw [iacc.length, List.length_take]
          have := hp.length
          omega
        refine ⟨acc, s2 _ _ hacc, lt_size (by omega), ?_, acc ++ [u], upd_same, ?_⟩
        · intro b o hb
          have hb2 := s2 _ _ (s1 _ _ hb)
          rw [upd_ne (ne_of_none hb hD)]
          exact hb2
        · rw [take_snoc hv1]
          have tk : Tk H2 (upd H2 D (.lst (acc ++ [u]))) := fun b o hb t => by
            rw [upd_ne (ne_of hb (s2 _ _ hacc) (by rintro rfl; exact t))]
            exact hb
          exact ((iacc.mono (Tk.of s2)).append (ImL.one iu)).mono tk
      · obtain ⟨s1, acc, hacc, iacc⟩ := q
        have hlen : exs.length = vs.length := by rw [ie.length, hp.length]
        rw [hlen, List.take_length] at iacc
        refine ⟨D, acc, rfl, .inl ⟨SqL.of hacc, fun t ht => ⟨le_size (by show 2 ≤ 100000; decide), fun q hq => ?_⟩⟩⟩
        refine k1 _ _ ((s1.trans (same_new ht)).trans (same_new hq)) ?_
        exact im_new hq (.cons (.str k) (.cons (im_new ht iacc) .nil))
    · -- get
      obtain ⟨p1, x1, x2, x3, rfl, ep, i1, i2, i3⟩ := im3 h2
      cases im_str i1
      cases im_str i3
      refine ⟨_, rfl, p1, _, _, _, rfl, rfl, SqT.of ep, at0, ?_⟩
      refine ⟨_, rfl, rfl, _, rfl, ifFD (by decide +kernel) ?_⟩
      refine ⟨_, rfl, rfl, _, rfl, ifFD (by decide +kernel) ?_⟩
      refine ⟨_, rfl, rfl, _, rfl, ifFD (by decide +kernel) ?_⟩
      refine ⟨_, rfl, rfl, _, rfl, ifFD (by decide +kernel) ?_⟩
      refine ⟨_, rfl, rfl, _, rfl, ifTD ?_⟩
      refine ⟨_, rfl, _, rfl, _, rfl, p1, _, _, _, rfl, rfl, SqT.of ep, at1, _, rfl, ks, ρ, ta, _, kvs, bx, h1, i2, rfl, hbx, hkv, ha, fun H1 y1 s1 iy1 => ?_⟩
      exact ⟨_, rfl, p1, _, _, _, rfl, rfl, SqT.of (s1 _ _ ep), at2, ks, k, vs, kd, f, p, v, j, h1.mono (Tk.of s1), iy1, rfl, hk, hf, hn, hj, hv, fun H2 u s2 iu => k1 _ _ (s1.trans s2) iu⟩
    · -- tag
      obtain ⟨p1, x1, x2, x3, x4, rfl, ep, i1, i2, i3, i4⟩ := im4 h2
      cases im_str i1
      cases im_str i2
      cases im_str i3
      refine ⟨_, rfl, p1, _, _, _, rfl, rfl, SqT.of ep, at0, ?_⟩
      refine ⟨_, rfl, rfl, _, rfl, ifFD (by decide +kernel) ?_⟩
      refine ⟨_, rfl, rfl, _, rfl, ifFD (by decide +kernel) ?_⟩
      refine ⟨_, rfl, rfl, _, rfl, ifFD (by decide +kernel) ?_⟩
      refine ⟨_, rfl, rfl, _, rfl, ifFD (by decide +kernel) ?_⟩
      refine ⟨_, rfl, rfl, _, rfl, ifFD (by decide +kernel) ?_⟩
      refine ⟨_, rfl, rfl, _, rfl, ifTD ?_⟩
      refine ⟨_, rfl, p1, _, _, _, rfl, rfl, SqT.of ep, at1, _, rfl, p1, _, _, _, rfl, rfl, SqT.of ep, at2, _, rfl, _, rfl, p1, _, _, _, rfl, rfl, SqT.of ep, at3, _, rfl, ks, ρ, te, _, kvs, bx, h1, i4, rfl, hbx, hkv, he, fun H1 y1 s1 iy1 => ⟨le_size (by show 3 ≤ 100000; decide), fun q hq => ?_⟩⟩
      refine k1 _ _ (s1.trans (same_new hq)) ?_
      exact im_new hq (.cons (.str k) (.cons (.str t) (.cons iy1 .nil)))
    · -- case
      obtain ⟨p1, x1, x2, x3, rfl, ep, i1, i2, i3⟩ := im3 h2
      cases im_str i1
      refine ⟨_, rfl, p1, _, _, _, rfl, rfl, SqT.of ep, at0, ?_⟩
      refine ⟨_, rfl, rfl, _, rfl, ifFD (by decide +kernel) ?_⟩
      refine ⟨_, rfl, rfl, _, rfl, ifFD (by decide +kernel) ?_⟩
      refine ⟨_, rfl, rfl, _, rfl, ifFD (by decide +kernel) ?_⟩
      refine ⟨_, rfl, rfl, _, rfl, ifFD (by decide +kernel) ?_⟩
      refine ⟨_, rfl, rfl, _, rfl, ifFD (by decide +kernel) ?_⟩
      refine ⟨_, rfl, rfl, _, rfl, ifFD (by decide +kernel) ?_⟩
      refine ⟨_, rfl, rfl, _, rfl, ifTD ?_⟩
      exact ⟨_, rfl, _, rfl, _, rfl, ks, ρ, v, kvs, bx, ta, arms, k, t, wv, j, y, te, h1, h2, rfl, hbx, hkv, ha, hform, hj, hfirst, hlen, he, k1⟩
    · -- if
      obtain ⟨p1, x1, x2, x3, x4, rfl, ep, i1, i2, i3, i4⟩ := im4 h2
      cases im_str i1
      refine ⟨_, rfl, p1, _, _, _, rfl, rfl, SqT.of ep, at0, ?_⟩
      refine ⟨_, rfl, rfl, _, rfl, ifFD (by decide +kernel) ?_⟩
      refine ⟨_, rfl, rfl, _, rfl, ifFD (by decide +kernel) ?_⟩
      refine ⟨_, rfl, rfl, _, rfl, ifFD (by decide +kernel) ?_⟩
      refine ⟨_, rfl, rfl, _, rfl, ifFD (by decide +kernel) ?_⟩
      refine ⟨_, rfl, rfl, _, rfl, ifFD (by decide +kernel) ?_⟩
      refine ⟨_, rfl, rfl, _, rfl, ifFD (by decide +kernel) ?_⟩
      refine ⟨_, rfl, rfl, _, rfl, ifFD (by decide +kernel) ?_⟩
      refine ⟨_, rfl, _, rfl, p1, _, _, _, rfl, rfl, SqT.of ep, at1, _, rfl, ks, ρ, tc, _, kvs, bx, h1, i2, rfl, hbx, hkv, hc, fun H1 y1 s1 iy1 => ?_⟩
      cases im_int iy1
      refine ⟨rfl, _, rfl, ?_⟩
      rcases hab with ⟨hi, ha⟩ | ⟨hi, hb⟩
      · rw [decide_eq_false (fun z => hi (V.int.inj z))]
        refine iteT ?_
        exact ⟨_, rfl, _, rfl, p1, _, _, _, rfl, rfl, SqT.of (s1 _ _ ep), at2, _, rfl, ks, ρ, ta, _, kvs, bx, h1.mono (Tk.of s1), i3.mono (Tk.of s1), rfl, rd_same s1 hbx, hkv.mono (Tk.of s1), ha, fun H2 u s2 iu => k1 _ _ (s1.trans s2) iu⟩
      · subst hi
        rw [decide_eq_true (rfl : V.int 0 = V.int 0)]
        refine iteF ?_
        exact ⟨_, rfl, _, rfl, p1, _, _, _, rfl, rfl, SqT.of (s1 _ _ ep), at3, _, rfl, ks, ρ, tb, _, kvs, bx, h1.mono (Tk.of s1), i4.mono (Tk.of s1), rfl, rd_same s1 hbx, hkv.mono (Tk.of s1), hb, fun H2 u s2 iu => k1 _ _ (s1.trans s2) iu⟩
end
end SwK
set_option maxHeartbeats 8000000
/-! kinds of terms -/
namespace SwK
open PySem PySem.Spec PyProof.Rows L2
theorem same_put {H0 H : Hp} {D : Addr} {o : HO} (s : Same H0 H) (hD : H0 D = none) : Same H0 (upd H D o) := fun b u hb => by
  rw [upd_ne (ne_of_none hb hD)]
  exact s _ _ hb
theorem tk_put {H : Hp} {D : Addr} {u o : HO} (e : H D = some u) (nt : ¬ TupO u) : Tk H (upd H D o) := fun b v hb t => by
  rw [upd_ne (ne_of hb e (by rintro rfl; exact nt t))]
  exact hb
theorem ntL {xs : List V} : ¬ TupO (.lst xs) := fun h => h
theorem ntK {kvs : List (Key × V)} : ¬ TupO (.dK kvs) := fun h => h
theorem Filled.app {H0 H : Hp} {D : Addr} {ds : List Da} {acc : List V} {u : V} {d : Da} (hD : H0 D = none) (s : Same H0 H) (ha : H D = some (.lst acc)) (ia : ImL H acc ds) (iu : Im H u d) : Filled H0 D (ds ++ [d]) (upd H D (.lst (acc ++ [u]))) :=
  ⟨same_put s hD, acc ++ [u], upd_same, (ia.append (ImL.one iu)).mono (tk_put ha ntL)⟩
/-- a dict by texts, filled so far -/
def FilledK (H0 : Hp) (D : Addr) (ρ : List (Str × Da)) (H : Hp) : Prop := Same H0 H ∧ ∃ kvs, H D = some (.dK kvs) ∧ KvI H kvs ρ
theorem FilledK.put {H0 H : Hp} {D : Addr} {ρ : List (Str × Da)} {kvs : List (Key × V)} {x : Str} {u : V} {d : Da} (hD : H0 D = none) (s : Same H0 H) (ha : H D = some (.dK kvs)) (ia : KvI H kvs ρ) (iu : Im H u d) :
    FilledK H0 D (putE ρ x d) (upd H D (.dK (putK kvs (Sum.inr x) u))) :=
  ⟨same_put s hD, _, upd_same, (ia.put iu).mono (tk_put ha ntK)⟩
def boxD (x : Str) : Da := .tup [.str "box", .str x]
def KO0 (ks : List Kd) (ρ : List (Str × Da)) (d : Da) (k : Str) : Prop := ∃ x, d = boxD x ∧ lkE ρ x = some (.str k)
def KOr (ks : List Kd) (ρ : List (Str × Da)) (d : Da) (k : Str) : Prop := ∃ kd, lookK ks k = some kd ∧ kd.alt = false ∧ d = .tup [.str "rec", .str k, .tup (kd.parts.map fun p => boxD p.1)] ∧ ∀ p ∈ kd.parts, lkE ρ p.1 = some (.str p.2)
def KOt (ks : List Kd) (ρ : List (Str × Da)) (d : Da) (k : Str) : Prop := ∃ kd t p x, lookK ks k = some kd ∧ kd.alt = true ∧ lkE kd.parts t = some p ∧ d = .tup [.str "tag", .str k, .str t, boxD x] ∧ lkE ρ x = some (.str p)
def KO1 (ks : List Kd) (ρ : List (Str × Da)) (d : Da) (k : Str) : Prop := KO0 ks ρ d k ∨ KOr ks ρ d k ∨ KOt ks ρ d k
def spK (F : List Kd → List (Str × Da) → Da → Str → Prop) : Sp := sp3 fun a b c H Q => ∃ ks ρ d k kvs bx, Im H a (kindsD ks) ∧ Im H b d ∧ c = .ref bx ∧ Rd H bx (.dK kvs) ∧ KvI H kvs ρ ∧ F ks ρ d k ∧ ∀ H', Same H H' → Q (.str k) H'
def spKB : Sp := sp2 fun b c H Q => ∃ ρ d k kvs bx, Im H b d ∧ c = .ref bx ∧ Rd H bx (.dK kvs) ∧ KvI H kvs ρ ∧ KO0 [] ρ d k ∧ Q (.str k) H
def spNeedK : Sp := sp2 fun a b H Q => ∃ k, a = .str k ∧ b = .str k ∧ Q .non H
def spNeedS : Sp := sp3 fun a b c H Q => ∃ ks k kd, Im H a (kindsD ks) ∧ b = .str k ∧ lookK ks k = some kd ∧ c = .str (sortS kd.alt) ∧ ∀ v, Im H v (partsD kd.parts) → Q v H
def spPartK : Sp := sp2 fun a b H Q => ∃ ps t p, Im H a (partsD ps) ∧ b = .str t ∧ lkE ps t = some p ∧ Q (.str p) H
section
variable {P : Program} {w : World} {K : PySem.W.Frag} {mg : Str → Option Value} {base : Heap}
/- need_kind: slots 0 kind 1 due -/
theorem sc_need_kind : FnScope ["kind", "due"] ["kind", "due"] (defScope s_need_kind) := ⟨rfl, rfl, rfl, by decide +kernel, rfl, by decide +kernel, by decide +kernel⟩
theorem ok_need_kind (T : Txt K mg) : C8.Cal P w K mg base 1 "need_kind" spNeedK [] := by
  refine mkCal (f_need_kind T) (g_need_kind T) sc_need_kind (fun _ _ _ _ _ _ us hl => match us, hl with | [_, _], _ => rfl) (fun vs H Q E h => ?_) (fun vs H Q E h => ?_)
  · obtain ⟨a, b, rfl, _⟩ := sp2_len h
    rfl
  obtain ⟨a, b, rfl, h⟩ := sp2_len h
  intro cdv A outer s E hr
  have hu := hu_of hr
  obtain ⟨k, rfl, rfl, k1⟩ := h
  refine ⟨_, (pss_one (ps_if (pt_cmpR op_ne (pv 0) (pv 1) (nomark _)) (pss_one ps_never) pss_nil)), ?_⟩
  refine ⟨_, rfl, _, rfl, rfl, _, rfl, ?_⟩
  rw [strT]
  exact iteF k1
/- need_sort: slots 0 kinds 1 kind 2 sort -/
theorem sc_need_sort : FnScope ["kinds", "kind", "sort"] ["kinds", "kind", "sort"] (defScope s_need_sort) := ⟨rfl, rfl, rfl, by decide +kernel, rfl, by decide +kernel, by decide +kernel⟩
theorem ok_need_sort (T : Txt K mg) (c_sort_of : C8.Cal P w K mg base 2 "sort_of" spSortOf []) (c_parts_of : C8.Cal P w K mg base 2 "parts_of" spPartsOf []) : C8.Cal P w K mg base 3 "need_sort" spNeedS [] := by
  refine mkCal (f_need_sort T) (g_need_sort T) sc_need_sort (fun _ _ _ _ _ _ us hl => match us, hl with | [_, _, _], _ => rfl) (fun vs H Q E h => ?_) (fun vs H Q E h => ?_)
  · obtain ⟨a, b, c, rfl, _⟩ := sp3_len h
    rfl
  obtain ⟨a, b, c, rfl, h⟩ := sp3_len h
  intro cdv A outer s E hr
  have hu := hu_of hr
  obtain ⟨ks, k, kd, h1, rfl, hk, rfl, k1⟩ := h
  refine ⟨_, (pss_cons (ps_if (pt_cmpR op_ne (C8.pe_c c_sort_of hr (by omega) rfl (pa_cons (pv 0) (pa_cons (pv 1) pa_nil))) (pv 2) (nomark _)) (pss_one ps_never) pss_nil)
        (pss_one (ps_ret (C8.pe_c c_parts_of hr (by omega) rfl (pa_cons (pv 0) (pa_cons (pv 1) pa_nil)))))), ?_⟩
  refine ⟨_, rfl, _, rfl, ks, k, h1, rfl, fun kd' e => ?_, fun e => ?_⟩
  · rw [hk] at e
    cases e
    refine ⟨_, rfl, rfl, _, rfl, ?_⟩
    rw [strT]
    refine iteF ?_
    exact ⟨_, rfl, _, rfl, ks, k, kd, h1, rfl, hk, k1⟩
  · rw [hk] at e
    cases e
/- named_sort: slots 0 kinds 1 kind 2 sort -/
theorem sc_named_sort : FnScope ["kinds", "kind", "sort"] ["kinds", "kind", "sort"] (defScope s_named_sort) := ⟨rfl, rfl, rfl, by decide +kernel, rfl, by decide +kernel, by decide +kernel⟩
theorem ok_named_sort (T : Txt K mg) (c_sort_of : C8.Cal P w K mg base 2 "sort_of" spSortOf []) (c_need_sort : C8.Cal P w K mg base 3 "need_sort" spNeedS []) : C8.Cal P w K mg base 4 "named_sort" spNeedS [] := by
  refine mkCal (f_named_sort T) (g_named_sort T) sc_named_sort (fun _ _ _ _ _ _ us hl => match us, hl with | [_, _, _], _ => rfl) (fun vs H Q E h => ?_) (fun vs H Q E h => ?_)
  · obtain ⟨a, b, c, rfl, _⟩ := sp3_len h
    rfl
  obtain ⟨a, b, c, rfl, h⟩ := sp3_len h
  intro cdv A outer s E hr
  have hu := hu_of hr
  obtain ⟨ks, k, kd, h1, rfl, hk, rfl, k1⟩ := h
  refine ⟨_, (pss_cons (ps_if (pt_cmpR op_isN (C8.pe_c c_sort_of hr (by omega) rfl (pa_cons (pv 0) (pa_cons (pv 1) pa_nil))) pe_non (nomark _)) (pss_one ps_never) pss_nil)
        (pss_one (ps_ret (C8.pe_c c_need_sort hr (by omega) rfl (pa_cons (pv 0) (pa_cons (pv 1) (pa_cons (pv 2) pa_nil))))))), ?_⟩
  refine ⟨_, rfl, _, rfl, ks, k, h1, rfl, fun kd' e => ?_, fun e => ?_⟩
  · rw [hk] at e
    cases e
    refine ⟨rfl, _, rfl, ?_⟩
    refine iteF ?_
    exact ⟨_, rfl, _, rfl, _, rfl, ks, k, kd, h1, rfl, hk, rfl, k1⟩
  · rw [hk] at e
    cases e
/- part_kind: slots 0 parts 1 name 2 one 3 kind -/
theorem sc_part_kind : FnScope ["parts", "name", "one", "kind"] ["parts", "name"] (defScope s_part_kind) := ⟨rfl, rfl, rfl, by decide +kernel, rfl, by decide +kernel, by decide +kernel⟩
theorem ok_part_kind (T : Txt K mg) : C8.Cal P w K mg base 1 "part_kind" spPartK [] := by
  refine mkCal (f_part_kind T) (g_part_kind T) sc_part_kind (fun _ _ _ _ _ _ us hl => match us, hl with | [_, _], _ => rfl) (fun vs H Q E h => ?_) (fun vs H Q E h => ?_)
  · obtain ⟨a, b, rfl, _⟩ := sp2_len h
    rfl
  obtain ⟨a, b, rfl, h⟩ := sp2_len h
  intro cdv A outer s E hr
  have hu := hu_of hr
  obtain ⟨ps, t, p, h1, rfl, ht, k1⟩ := h
  obtain ⟨pa, po, pxs, rfl, ep, _, ip⟩ := im_pt h1
  refine ⟨_, (pss_cons (ps_for PassesOwn.never rfl (pi_tup (pv 0)) (pg_tup rfl (pgs_cons (pg_name (i := 2) sc_part_kind.nd rfl (by first | exact .inl rfl | exact .inr rfl)) (pgs_cons (pg_name (i := 3) sc_part_kind.nd rfl (by first | exact .inl rfl | exact .inr rfl)) pgs_nil))) (pss_one (ps_if (pt_cmpR op_eq (pv 2) (pv 1) (nomark _)) (pss_one (ps_ret (pv 3))) pss_nil)))
        (pss_one ps_never)), ?_⟩
  refine ⟨_, rfl, pa, rfl, ⟨_, sqT_frz ep⟩, for_tup (xs := pxs) (fun i σ H' => H' = H ∧ (∃ o2 o3, σ = [some (.ref pa), some (.str t), o2, o3]) ∧ lkE (ps.drop i) t = some p) ⟨rfl, ⟨_, _, rfl⟩, ht⟩ (fun i σ H' _ q => by rw [q.1]; exact sqT_frz ep) ?_ ?_⟩
  · rintro i x σ H' hx ⟨rfl, ⟨o2, o3, rfl⟩, hf⟩
    obtain ⟨q, hq, ix⟩ := iml_map ip hx
    obtain ⟨qa, y1, y2, rfl, eq, i1, i2⟩ := im2 ix
    cases im_str i1
    cases im_str i2
    refine ⟨qa, _, rfl, SqT.of eq, rfl, _, _, rfl, _, _, rfl, rfl, _, rfl, _, rfl, rfl, _, rfl, ?_⟩
    have hd : ps.drop i = q :: ps.drop (i + 1) := by
      obtain ⟨hi, e⟩ := List.getElem?_eq_some_iff.mp hq
      rw [← e]
      exact List.drop_eq_getElem_cons hi
    rw [hd, lkE_cons] at hf
    by_cases e : q.1 = t
    · rw [if_pos e] at hf
      cases hf
      rw [e, strT]
      exact iteT ⟨_, rfl, k1⟩
    · rw [if_neg e] at hf
      rw [strF e]
      exact iteF ⟨rfl, ⟨_, _, rfl⟩, hf⟩
  · rintro σ H' ⟨rfl, _, hf⟩
    rw [ip.length, List.length_map, List.drop_length] at hf
    cases hf
/- kind_of_box: slots 0 term 1 boxes -/
theorem sc_kind_of_box : FnScope ["term", "boxes"] ["term", "boxes"] (defScope s_kind_of_box) := ⟨rfl, rfl, rfl, by decide +kernel, rfl, by decide +kernel, by decide +kernel⟩
theorem ok_kind_of_box (T : Txt K mg) : C8.Cal P w K mg base 1 "kind_of_box" spKB [] := by
  refine mkCal (f_kind_of_box T) (g_kind_of_box T) sc_kind_of_box (fun _ _ _ _ _ _ us hl => match us, hl with | [_, _], _ => rfl) (fun vs H Q E h => ?_) (fun vs H Q E h => ?_)
  · obtain ⟨a, b, rfl, _⟩ := sp2_len h
    rfl
  obtain ⟨a, b, rfl, h⟩ := sp2_len h
  intro cdv A outer s E hr
  have hu := hu_of hr
  obtain ⟨ρ, d, k, kvs, bx, h1, rfl, hbx, hkv, ⟨x, rfl, hx⟩, k1⟩ := h
  obtain ⟨p, y1, y2, rfl, ep, i1, i2⟩ := im2 h1
  cases im_str i1
  cases im_str i2
  obtain ⟨u, u1, u2⟩ := hkv.has hx
  cases im_str u2
  refine ⟨_, (pss_cons (ps_if (pt_cmp (pc_dnotin hu (pe_ix ix_tup (pv 0) pe_int (fun _ _ => rfl)) (pv 1))) (pss_one ps_never) pss_nil)
        (pss_one (ps_ret (pe_dget hu (pv 1) (pe_ix ix_tup (pv 0) pe_int (fun _ _ => rfl)) (fun _ _ => rfl))))), ?_⟩
  refine ⟨_, rfl, p, _, _, _, rfl, rfl, SqT.of ep, at1, _, rfl, bx, _, rfl, dget_s hbx, _, rfl, ?_⟩
  rw [u1]
  refine iteF ?_
  exact ⟨_, rfl, _, rfl, p, _, _, _, rfl, rfl, SqT.of ep, at1, bx, _, rfl, u1 ▸ dget_s hbx, k1⟩
/- kind_of: slots 0 kinds 1 term 2 boxes 3 word -/
theorem sc_kind_of : FnScope ["kinds", "term", "boxes", "word"] ["kinds", "term", "boxes"] (defScope s_kind_of) := ⟨rfl, rfl, rfl, by decide +kernel, rfl, by decide +kernel, by decide +kernel⟩
theorem ok_kind_of0 (T : Txt K mg) (c_kind_of_box : C8.Cal P w K mg base 1 "kind_of_box" spKB []) : C8.Cal P w K mg base 2 "kind_of" (spK KO0) [] := by
  refine mkCal (f_kind_of T) (g_kind_of T) sc_kind_of (fun _ _ _ _ _ _ us hl => match us, hl with | [_, _, _], _ => rfl) (fun vs H Q E h => ?_) (fun vs H Q E h => ?_)
  · obtain ⟨a, b, c, rfl, _⟩ := sp3_len h
    rfl
  obtain ⟨a, b, c, rfl, h⟩ := sp3_len h
  intro cdv A outer s E hr
  have hu := hu_of hr
  obtain ⟨ks, ρ, d, k, kvs, bx, h0, h1, rfl, hbx, hkv, ⟨x, rfl, hx⟩, k1⟩ := h
  obtain ⟨p, y1, y2, rfl, ep, i1, i2⟩ := im2 h1
  cases im_str i1
  refine ⟨_, pss_cons (ps_set (i := 3) sc_kind_of.nd rfl (by first | exact .inl rfl | exact .inr rfl) (pe_ix ix_tup (pv 1) pe_int (fun _ _ => rfl)))
    (pss_cons (ps_if (pt_cmpR op_eq (pv 3) pe_str (nomark _)) pss_never pss_nil)
    (pss_cons (ps_if (pt_cmpR op_eq (pv 3) pe_str (nomark _)) (pss_one (ps_ret (C8.pe_c c_kind_of_box hr (by omega) rfl (pa_cons (pv 1) (pa_cons (pv 2) pa_nil))))) pss_nil) pss_never)), ?_⟩
  refine ⟨_, rfl, p, _, _, _, rfl, rfl, SqT.of ep, at0, ?_⟩
  refine ⟨_, rfl, rfl, _, rfl, ifFD (by decide +kernel) ?_⟩
  refine ⟨_, rfl, rfl, _, rfl, ifTD ?_⟩
  exact ⟨_, rfl, _, rfl, ρ, _, k, kvs, bx, h1, rfl, hbx, hkv, ⟨x, rfl, hx⟩, k1 _ (Same.refl _)⟩
/- kind_of_rec: slots 0 kinds 1 term 2 boxes 3 parts 4 part 5 one -/
theorem sc_kind_of_rec : FnScope ["kinds", "term", "boxes", "parts", "part", "one"] ["kinds", "term", "boxes"] (defScope s_kind_of_rec) := ⟨rfl, rfl, rfl, by decide +kernel, rfl, by decide +kernel, by decide +kernel⟩
theorem ok_kind_of_rec (T : Txt K mg) (c_need_kind : C8.Cal P w K mg base 1 "need_kind" spNeedK []) (c_named_sort : C8.Cal P w K mg base 4 "named_sort" spNeedS []) (c_kind_of : C8.Cal P w K mg base 2 "kind_of" (spK KO0) []) : C8.Cal P w K mg base 5 "kind_of_rec" (spK KOr) [] := by
  refine mkCal (f_kind_of_rec T) (g_kind_of_rec T) sc_kind_of_rec (fun _ _ _ _ _ _ us hl => match us, hl with | [_, _, _], _ => rfl) (fun vs H Q E h => ?_) (fun vs H Q E h => ?_)
  · obtain ⟨a, b, c, rfl, _⟩ := sp3_len h
    rfl
  obtain ⟨a, b, c, rfl, h⟩ := sp3_len h
  intro cdv A outer s E hr
  have hu := hu_of hr
  obtain ⟨ks, ρ, d, k, kvs, bx, h0, h1, rfl, hbx, hkv, ⟨kd, hk, hal, rfl, hall⟩, k1⟩ := h
  obtain ⟨p, y1, y2, y3, rfl, ep, i1, i2, i3⟩ := im3 h1
  cases im_str i1
  cases im_str i2
  obtain ⟨ta, txs, rfl, et, it⟩ := im_tup i3
  refine ⟨_, (pss_cons (ps_set (i := 3) sc_kind_of_rec.nd rfl (by first | exact .inl rfl | exact .inr rfl) (C8.pe_c c_named_sort hr (by omega) rfl (pa_cons (pv 0) (pa_cons (pe_ix ix_tup (pv 1) pe_int (fun _ _ => rfl)) (pa_cons pe_str pa_nil)))))
        (pss_cons (ps_if (pt_cmpR op_ne (pe_callB call_len rfl (z_len T) PySem.boot_len (pa_cons (pv 3) pa_nil)) (pe_callB call_len rfl (z_len T) PySem.boot_len (pa_cons (pe_ix ix_tup (pv 1) pe_int (fun _ _ => rfl)) pa_nil)) (nomark _)) (pss_one ps_never) pss_nil)
        (pss_cons (ps_for PassesOwn.never rfl (RZ.pi_zipA rfl (z_zip T) (pa_cons (pv 3) (pa_cons (pe_ix ix_tup (pv 1) pe_int (fun _ _ => rfl)) pa_nil))) (pg_tup rfl (pgs_cons (pg_name (i := 4) sc_kind_of_rec.nd rfl (by first | exact .inl rfl | exact .inr rfl)) (pgs_cons (pg_name (i := 5) sc_kind_of_rec.nd rfl (by first | exact .inl rfl | exact .inr rfl)) pgs_nil))) (pss_one (ps_expr (C8.pe_c c_need_kind hr (by omega) rfl (pa_cons (C8.pe_c c_kind_of hr (by omega) rfl (pa_cons (pv 0) (pa_cons (pv 5) (pa_cons (pv 2) pa_nil)))) (pa_cons (pe_ix ix_tup (pv 4) pe_int (fun _ _ => rfl)) pa_nil))))))
        (pss_one (ps_ret (pe_ix ix_tup (pv 1) pe_int (fun _ _ => rfl))))))), ?_⟩
  refine ⟨_, rfl, _, rfl, p, _, _, _, rfl, rfl, SqT.of ep, at1, ks, k, kd, h0, rfl, hk, by rw [hal]; rfl, fun v iv => ?_⟩
  obtain ⟨pa, po, pxs, rfl, epp, _, ip⟩ := im_pt iv
  have l1 : pxs.length = kd.parts.length := by rw [ip.length, List.length_map]
  have l2 : txs.length = kd.parts.length := by rw [it.length, List.length_map]
  refine ⟨_, rfl, _, _, rfl, .inr ⟨_, sqT_frz epp, rfl⟩, _, rfl, p, _, _, _, rfl, rfl, SqT.of ep, at2, _, _, rfl, .inr ⟨_, SqT.of et, rfl⟩, rfl, _, rfl, ?_⟩
  rw [l1, l2, decide_eq_true rfl]
  refine iteF ?_
  refine ⟨_, rfl, _, rfl, p, _, _, _, rfl, rfl, SqT.of ep, at2, pa, ta, pxs, txs, rfl, .inr ⟨sqT_frz epp, SqT.of et, RZ.for_zipT (by rw [l1, l2]) (fun i σ H' => Same H H' ∧ ∃ o4 o5, σ = [some a, some (.ref p), some (.ref bx), some (.ref pa), o4, o5]) ⟨Same.refl _, _, _, rfl⟩
    (fun i σ H' q => ⟨sqT_frz (q.1 _ _ epp), SqT.of (q.1 _ _ et)⟩) ?_ ?_⟩⟩
  · rintro i x y q σ H' hx hy ⟨s1, o4, o5, rfl⟩ hq
    obtain ⟨pp, hp, ix⟩ := iml_map ip hx
    obtain ⟨pp', hp', iy⟩ := iml_map it hy
    rw [hp] at hp'
    cases hp'
    have s2 : Same H (upd H' q (.tup [x, y])) := s1.trans (same_new hq)
    obtain ⟨xa, x1, x2, rfl, ex, j1, j2⟩ := im2 (ix.mono (Tk.of s2))
    cases im_str j2
    refine ⟨q, _, rfl, SqT.of upd_same, rfl, _, _, rfl, _, _, rfl, rfl, ?_⟩
    refine ⟨_, rfl, _, rfl, _, rfl, ks, ρ, _, pp.2, kvs, bx, h0.mono (Tk.of s2), iy.mono (Tk.of s2), rfl, rd_same s2 hbx, hkv.mono (Tk.of s2), ⟨pp.1, rfl, hall pp (List.mem_of_getElem? hp)⟩, fun H3 s3 => ?_⟩
    exact ⟨_, rfl, xa, _, _, _, rfl, rfl, SqT.of (s3 _ _ ex), at1, pp.2, rfl, rfl, s2.trans s3, _, _, rfl⟩
  · rintro σ H' ⟨s1, o4, o5, rfl⟩
    exact ⟨_, rfl, p, _, _, _, rfl, rfl, SqT.of (s1 _ _ ep), at1, k1 _ s1⟩
/- kind_of_tag: slots 0 kinds 1 term 2 boxes 3 kind -/
theorem sc_kind_of_tag : FnScope ["kinds", "term", "boxes", "kind"] ["kinds", "term", "boxes"] (defScope s_kind_of_tag) := ⟨rfl, rfl, rfl, by decide +kernel, rfl, by decide +kernel, by decide +kernel⟩
theorem ok_kind_of_tag (T : Txt K mg) (c_need_kind : C8.Cal P w K mg base 1 "need_kind" spNeedK []) (c_named_sort : C8.Cal P w K mg base 4 "named_sort" spNeedS []) (c_part_kind : C8.Cal P w K mg base 1 "part_kind" spPartK [])
    (c_kind_of : C8.Cal P w K mg base 2 "kind_of" (spK KO0) []) : C8.Cal P w K mg base 5 "kind_of_tag" (spK KOt) [] := by
  refine mkCal (f_kind_of_tag T) (g_kind_of_tag T) sc_kind_of_tag (fun _ _ _ _ _ _ us hl => match us, hl with | [_, _, _], _ => rfl) (fun vs H Q E h => ?_) (fun vs H Q E h => ?_)
  · obtain ⟨a, b, c, rfl, _⟩ := sp3_len h
    rfl
  obtain ⟨a, b, c, rfl, h⟩ := sp3_len h
  intro cdv A outer s E hr
  have hu := hu_of hr
  obtain ⟨ks, ρ, d, k, kvs, bx, h0, h1, rfl, hbx, hkv, ⟨kd, t, pk, x, hk, hal, ht, rfl, hx⟩, k1⟩ := h
  obtain ⟨p, y1, y2, y3, y4, rfl, ep, i1, i2, i3, i4⟩ := im4 h1
  cases im_str i1
  cases im_str i2
  cases im_str i3
  refine ⟨_, (pss_cons (ps_set (i := 3) sc_kind_of_tag.nd rfl (by first | exact .inl rfl | exact .inr rfl) (C8.pe_c c_part_kind hr (by omega) rfl (pa_cons (C8.pe_c c_named_sort hr (by omega) rfl (pa_cons (pv 0) (pa_cons (pe_ix ix_tup (pv 1) pe_int (fun _ _ => rfl)) (pa_cons pe_str pa_nil)))) (pa_cons (pe_ix ix_tup (pv 1) pe_int (fun _ _ => rfl)) pa_nil))))
        (pss_cons (ps_expr (C8.pe_c c_need_kind hr (by omega) rfl (pa_cons (C8.pe_c c_kind_of hr (by omega) rfl (pa_cons (pv 0) (pa_cons (pe_ix ix_tup (pv 1) pe_int (fun _ _ => rfl)) (pa_cons (pv 2) pa_nil)))) (pa_cons (pv 3) pa_nil))))
        (pss_one (ps_ret (pe_ix ix_tup (pv 1) pe_int (fun _ _ => rfl)))))), ?_⟩
  refine ⟨_, rfl, _, rfl, p, _, _, _, rfl, rfl, SqT.of ep, at1, ks, k, kd, h0, rfl, hk, by rw [hal]; rfl, fun v iv => ?_⟩
  refine ⟨_, rfl, p, _, _, _, rfl, rfl, SqT.of ep, at2, kd.parts, t, pk, iv, rfl, ht, ?_⟩
  refine ⟨_, rfl, _, rfl, p, _, _, _, rfl, rfl, SqT.of ep, at3, _, rfl, ks, ρ, _, pk, kvs, bx, h0, i4, rfl, hbx, hkv, ⟨x, rfl, hx⟩, fun H3 s3 => ?_⟩
  exact ⟨_, rfl, pk, rfl, rfl, _, rfl, p, _, _, _, rfl, rfl, SqT.of (s3 _ _ ep), at1, k1 _ s3⟩
theorem ok_kind_of (T : Txt K mg) (c_kind_of_box : C8.Cal P w K mg base 1 "kind_of_box" spKB []) (c_kind_of_rec : C8.Cal P w K mg base 5 "kind_of_rec" (spK KOr) []) (c_kind_of_tag : C8.Cal P w K mg base 5 "kind_of_tag" (spK KOt) []) :
    C8.Cal P w K mg base 6 "kind_of" (spK KO1) [] := by
  refine mkCal (f_kind_of T) (g_kind_of T) sc_kind_of (fun _ _ _ _ _ _ us hl => match us, hl with | [_, _, _], _ => rfl) (fun vs H Q E h => ?_) (fun vs H Q E h => ?_)
  · obtain ⟨a, b, c, rfl, _⟩ := sp3_len h
    rfl
  obtain ⟨a, b, c, rfl, h⟩ := sp3_len h
  intro cdv A outer s E hr
  have hu := hu_of hr
  obtain ⟨ks, ρ, d, k, kvs, bx, h0, h1, rfl, hbx, hkv, hko, k1⟩ := h
  refine ⟨_, (pss_cons (ps_set (i := 3) sc_kind_of.nd rfl (by first | exact .inl rfl | exact .inr rfl) (pe_ix ix_tup (pv 1) pe_int (fun _ _ => rfl)))
        (pss_cons (ps_if (pt_cmpR op_eq (pv 3) pe_str (nomark _)) pss_never pss_nil)
        (pss_cons (ps_if (pt_cmpR op_eq (pv 3) pe_str (nomark _)) (pss_one (ps_ret (C8.pe_c c_kind_of_box hr (by omega) rfl (pa_cons (pv 1) (pa_cons (pv 2) pa_nil))))) pss_nil)
        (pss_cons (ps_if (pt_cmpR op_eq (pv 3) pe_str (nomark _)) pss_never pss_nil)
        (pss_cons (ps_if (pt_cmpR op_eq (pv 3) pe_str (nomark _)) (pss_one (ps_ret (C8.pe_c c_kind_of_rec hr (by omega) rfl (pa_cons (pv 0) (pa_cons (pv 1) (pa_cons (pv 2) pa_nil)))))) pss_nil)
        (pss_cons (ps_if (pt_cmpR op_eq (pv 3) pe_str (nomark _)) pss_never pss_nil)
        (pss_cons (ps_if (pt_cmpR op_eq (pv 3) pe_str (nomark _)) (pss_one (ps_ret (C8.pe_c c_kind_of_tag hr (by omega) rfl (pa_cons (pv 0) (pa_cons (pv 1) (pa_cons (pv 2) pa_nil)))))) pss_nil)
        (pss_cons (ps_if (pt_cmpR op_eq (pv 3) pe_str (nomark _)) pss_never pss_nil)
        (pss_one ps_never))))))))), ?_⟩
  rcases hko with ⟨x, rfl, hx⟩ | ⟨kd, hk, hal, rfl, hall⟩ | ⟨kd, t, pk, x, hk, hal, ht, rfl, hx⟩
  · obtain ⟨p, y1, y2, rfl, ep, i1, i2⟩ := im2 h1
    cases im_str i1
    refine ⟨_, rfl, p, _, _, _, rfl, rfl, SqT.of ep, at0, ?_⟩
    refine ⟨_, rfl, rfl, _, rfl, ifFD (by decide +kernel) ?_⟩
    refine ⟨_, rfl, rfl, _, rfl, ifTD ?_⟩
    exact ⟨_, rfl, _, rfl, ρ, _, k, kvs, bx, h1, rfl, hbx, hkv, ⟨x, rfl, hx⟩, k1 _ (Same.refl _)⟩
  · obtain ⟨p, y1, y2, y3, rfl, ep, i1, i2, i3⟩ := im3 h1
    cases im_str i1
    refine ⟨_, rfl, p, _, _, _, rfl, rfl, SqT.of ep, at0, ?_⟩
    refine ⟨_, rfl, rfl, _, rfl, ifFD (by decide +kernel) ?_⟩
    refine ⟨_, rfl, rfl, _, rfl, ifFD (by decide +kernel) ?_⟩
    refine ⟨_, rfl, rfl, _, rfl, ifFD (by decide +kernel) ?_⟩
    refine ⟨_, rfl, rfl, _, rfl, ifTD ?_⟩
    exact ⟨_, rfl, _, rfl, _, rfl, ks, ρ, _, k, kvs, bx, h0, h1, rfl, hbx, hkv, ⟨kd, hk, hal, rfl, hall⟩, k1⟩
  · obtain ⟨p, y1, y2, y3, y4, rfl, ep, i1, i2, i3, i4⟩ := im4 h1
    cases im_str i1
    refine ⟨_, rfl, p, _, _, _, rfl, rfl, SqT.of ep, at0, ?_⟩
    refine ⟨_, rfl, rfl, _, rfl, ifFD (by decide +kernel) ?_⟩
    refine ⟨_, rfl, rfl, _, rfl, ifFD (by decide +kernel) ?_⟩
    refine ⟨_, rfl, rfl, _, rfl, ifFD (by decide +kernel) ?_⟩
    refine ⟨_, rfl, rfl, _, rfl, ifFD (by decide +kernel) ?_⟩
    refine ⟨_, rfl, rfl, _, rfl, ifFD (by decide +kernel) ?_⟩
    refine ⟨_, rfl, rfl, _, rfl, ifTD ?_⟩
    exact ⟨_, rfl, _, rfl, _, rfl, ks, ρ, _, k, kvs, bx, h0, h1, rfl, hbx, hkv, ⟨kd, t, pk, x, hk, hal, ht, rfl, hx⟩, k1⟩
end
end SwK
set_option maxHeartbeats 8000000
/-! the ways of a make into itself: looked at -/
namespace SwK
open PySem PySem.Spec PyProof.Rows L2
theorem nd_take {α : Type} {g : α → Str} {l : List α} (hn : (l.map g).Nodup) {i : Nat} {a : α} (e : l[i]? = some a) : ¬ g a ∈ (l.take i).map g := by
  intro h
  obtain ⟨b, hb, eb⟩ := List.mem_map.mp h
  obtain ⟨j, hj⟩ := List.getElem?_of_mem hb
  have hji : j < i := by
    have := (List.getElem?_eq_some_iff.mp hj).1
    rw [List.length_take] at this
    omega
  rw [List.getElem?_take_of_lt hji] at hj
  have e1 : (l.map g)[j]? = some (g a) := by rw [List.getElem?_map, hj]; exact congrArg some eb
  have e2 : (l.map g)[i]? = some (g a) := by rw [List.getElem?_map, e]; rfl
  have := nd_ix hn e1 e2
  omega
theorem putE_step {α β : Type} {g : α → Str} {f : α → β} {l : List α} (hn : (l.map g).Nodup) {i : Nat} {a : α} (e : l[i]? = some a) : putE ((l.take i).map fun p => (g p, f p)) (g a) (f a) = (l.take (i + 1)).map fun p => (g p, f p) := by
  rw [putE_new, take_snoc e, List.map_append]
  · rfl
  · rw [List.map_map]
    exact nd_take hn e
theorem lkE_map {α β : Type} {g : α → Str} {f : α → β} {l : List α} (hn : (l.map g).Nodup) {a : α} (h : a ∈ l) : lkE (l.map fun p => (g p, f p)) (g a) = some (f a) :=
  lkE_of_mem (by rw [List.map_map]; exact hn) (List.mem_map.mpr ⟨a, h, rfl⟩)
def armD (kd : Kd) (p : Str × Str) : Da := .tup [.str p.1, .tup [.str "tag", .str kd.name, .str p.1, boxD "it"]]
def howD (kd : Kd) : Da := match kd.alt with
  | true => .pt (kd.parts.map (armD kd))
  | false => .tup [.str "rec", .str kd.name, .tup (kd.parts.map fun p => boxD p.1)]
def wayD (kd : Kd) : Da := .tup [.str kd.name, howD kd]
def waysE (ks : List Kd) : List (Str × Da) := ks.map fun kd => (kd.name, wayD kd)
def WaysAt (H : Hp) (wx : Addr) (ks : List Kd) : Prop := ∃ kvs, Rd H wx (.dK kvs) ∧ KvI H kvs (waysE ks)
def Knows (ks : List Kd) (k : Str) : Prop := k = "num" ∨ k ∈ ks.map (·.name)
theorem WaysAt.mono {H H' : Hp} {wx : Addr} {ks : List Kd} (s : Same H H') (h : WaysAt H wx ks) : WaysAt H' wx ks := by
  obtain ⟨kvs, h1, h2⟩ := h
  exact ⟨kvs, rd_same s h1, h2.mono (Tk.of s)⟩
theorem ways_lk {ks : List Kd} {k : Str} (h : k ∈ ks.map (·.name)) : ∃ kd ∈ ks, kd.name = k ∧ lkE (waysE ks) k = some (wayD kd) := by
  unfold waysE
  induction ks with
  | nil => cases h
  | cons a l ih =>
    rw [List.map_cons, lkE_cons]
    by_cases e : a.name = k
    · exact ⟨a, List.mem_cons_self, e, if_pos e⟩
    · rcases List.mem_cons.mp (show k ∈ a.name :: l.map (·.name) from h) with z | z
      · exact absurd z.symm e
      · obtain ⟨kd, h1, h2, h3⟩ := ih z
        exact ⟨kd, List.mem_cons_of_mem _ h1, h2, by rw [if_neg e]; exact h3⟩
def spGoes : Sp := sp2 fun a b H Q => ∃ wx ks k, a = .ref wx ∧ WaysAt H wx ks ∧ b = .str k ∧ Knows ks k ∧ Q (.str k) H
def kindsE (ps : List (Str × Str)) : List (Str × Da) := ps.map fun p => (p.1, .str p.2)
def spBow : Sp := sp2 fun a b H Q => ∃ wx ks ps, a = .ref wx ∧ WaysAt H wx ks ∧ Im H b (partsD ps) ∧ (∀ p ∈ ps, Knows ks p.2) ∧ (ps.map (·.1)).Nodup ∧ ps.length ≤ 1000 ∧ ∀ H' q, H q = none → FilledK H q (kindsE ps) H' → Q (.ref q) H'
def spBowL : Sp := sp2 fun a b H Q => ∃ wx ks p q x k, a = .ref wx ∧ WaysAt H wx ks ∧ b = .ref p ∧ H p = some (.lst [.ref q]) ∧ H q = some (.tup [.str x, .str k]) ∧ Knows ks k ∧ ∀ H' q, H q = none → FilledK H q [(x, .str k)] H' → Q (.ref q) H'
def spLookT : Sp := sp4 fun a b c d H Q => ∃ ks ρ t k kvs bx, Im H a (kindsD ks) ∧ Im H b t ∧ c = .ref bx ∧ Rd H bx (.dK kvs) ∧ KvI H kvs ρ ∧ d = .str k ∧ KO1 ks ρ t k ∧ ∀ H', Same H H' → Q .non H'
def spIsT : Sp := sp1 fun a H Q => (∃ x r, Im H a (.tup (.str x :: r)) ∧ Q (.bl true) H) ∨ ∃ l, Im H a (.pt l) ∧ (∀ d ∈ l, ∃ r, d = .tup r) ∧ Q (.bl false) H
/-- a kind whose parts are known -/
structure KdOk (ks : List Kd) (kd : Kd) : Prop where
  here : lookK ks kd.name = some kd
  parts : (kd.parts.map (·.1)).Nodup
  few : kd.parts.length ≤ 1000
  know : ∀ p ∈ kd.parts, Knows ks p.2
  num : ¬ kd.name = "num"
def spLookA : Sp := sp5 fun a b c d e H Q => ∃ ks wx kd, Im H a (kindsD ks) ∧ kd.alt = true ∧ KdOk ks kd ∧ Im H b (howD kd) ∧ c = .ref wx ∧ WaysAt H wx ks ∧ Im H d (partsD kd.parts) ∧ e = .str kd.name ∧ ∀ H', Same H H' → Q .non H'
def spLookW : Sp := sp4 fun a b c d H Q => ∃ m wx kd, Im H a (Mk0.d m) ∧ Im H b (Mk0.d m) ∧ c = .ref wx ∧ WaysAt H wx m.kinds ∧ KdOk m.kinds kd ∧ kd ∈ m.kinds ∧ d = .str kd.name ∧ (m.kinds.map (·.name)).Nodup ∧ ∀ H', Same H H' → Q .non H'
section
variable {P : Program} {w : World} {K : PySem.W.Frag} {mg : Str → Option Value} {base : Heap}
theorem eqS_strs {H : Hp} {a b : Addr} {xs : List Str} (ha : H a = some (.lst (xs.map V.str))) (hb : H b = some (.lst (xs.map V.str))) : EqS K H (EqX K H 1) (.ref a) (.ref b) := by
  refine .inl ⟨a, b, _, _, rfl, rfl, SqL.of ha, SqL.of hb, ?_⟩
  clear ha hb
  induction xs with
  | nil => exact .nil
  | cons x xs ih => exact .cons (.inl ⟨rfl, rfl⟩) ih
/- goes_to: slots 0 ways 1 kind -/
theorem sc_goes_to : FnScope ["ways", "kind"] ["ways", "kind"] (defScope s_goes_to) := ⟨rfl, rfl, rfl, by decide +kernel, rfl, by decide +kernel, by decide +kernel⟩
theorem ok_goes_to (T : Txt K mg) : C8.Cal P w K mg base 1 "goes_to" spGoes [] := by
  refine mkCal (f_goes_to T) (g_goes_to T) sc_goes_to (fun _ _ _ _ _ _ us hl => match us, hl with | [_, _], _ => rfl) (fun vs H Q E h => ?_) (fun vs H Q E h => ?_)
  · obtain ⟨a, b, rfl, _⟩ := sp2_len h
    rfl
  obtain ⟨a, b, rfl, h⟩ := sp2_len h
  intro cdv A outer s E hr
  have hu := hu_of hr
  obtain ⟨wx, ks, k, rfl, ⟨kvs, h1, h2⟩, rfl, hk, k1⟩ := h
  refine ⟨_, (pss_cons (ps_if (pt_cmpR op_eq (pv 1) pe_str (nomark _)) (pss_one (ps_ret pe_str)) pss_nil)
        (pss_cons (ps_if (pt_cmp (pc_din hu (pv 1) (pv 0))) (pss_one (ps_ret (pe_ix ix_tup (pe_dget hu (pv 0) (pv 1) (fun _ _ => rfl)) pe_int (fun _ _ => rfl)))) pss_nil)
        (pss_one (ps_ret pe_non)))), ?_⟩
  refine ⟨_, rfl, rfl, _, rfl, ?_⟩
  by_cases e : k = "num"
  · subst e
    exact ifTD k1
  refine ifFD e ?_
  rcases hk with z | hk
  · exact absurd z e
  obtain ⟨kd, hm, rfl, hl⟩ := ways_lk hk
  obtain ⟨u, u1, u2⟩ := h2.has hl
  refine ⟨_, rfl, _, rfl, wx, _, rfl, dget_s h1, _, rfl, ?_⟩
  rw [u1]
  refine iteT ?_
  obtain ⟨p, x1, x2, rfl, ep, i1, i2⟩ := im2 u2
  cases im_str i1
  exact ⟨_, rfl, _, rfl, wx, _, rfl, u1 ▸ dget_s h1, p, _, _, _, rfl, rfl, SqT.of ep, at0, k1⟩
/- boxes_over_ways: slots 0 ways 1 parts 2 boxes 3 name 4 kind -/
theorem sc_boxes_over_ways : FnScope ["ways", "parts", "boxes", "name", "kind"] ["ways", "parts"] (defScope s_boxes_over_ways) := ⟨rfl, rfl, rfl, by decide +kernel, rfl, by decide +kernel, by decide +kernel⟩
theorem ok_boxes_over_ways (T : Txt K mg) (c_goes_to : C8.Cal P w K mg base 1 "goes_to" spGoes []) : C8.Cal P w K mg base 2 "boxes_over_ways" spBow [] := by
  refine mkCal (f_boxes_over_ways T) (g_boxes_over_ways T) sc_boxes_over_ways (fun _ _ _ _ _ _ us hl => match us, hl with | [_, _], _ => rfl) (fun vs H Q E h => ?_) (fun vs H Q E h => ?_)
  · obtain ⟨a, b, rfl, _⟩ := sp2_len h
    rfl
  obtain ⟨a, b, rfl, h⟩ := sp2_len h
  intro cdv A outer s E hr
  have hu := hu_of hr
  obtain ⟨wx, ks, ps, rfl, hw, h1, hk, hn, hl, k1⟩ := h
  obtain ⟨pa, po, pxs, rfl, ep, _, ip⟩ := im_pt h1
  refine ⟨_, (pss_cons (ps_set (i := 2) sc_boxes_over_ways.nd rfl (by first | exact .inl rfl | exact .inr rfl) pe_dnewK)
        (pss_cons (ps_for PassesOwn.never rfl (pi_tup (pv 1)) (pg_tup rfl (pgs_cons (pg_name (i := 3) sc_boxes_over_ways.nd rfl (by first | exact .inl rfl | exact .inr rfl)) (pgs_cons (pg_name (i := 4) sc_boxes_over_ways.nd rfl (by first | exact .inl rfl | exact .inr rfl)) pgs_nil))) (pss_one (ps_if (pt_cmpR op_notN (C8.pe_c c_goes_to hr (by omega) rfl (pa_cons (pv 0) (pa_cons (pv 4) pa_nil))) pe_non (nomark _)) (pss_one (ps_dput hu (pv 2) (pv 3) (C8.pe_c c_goes_to hr (by omega) rfl (pa_cons (pv 0) (pa_cons (pv 4) pa_nil))) rfl)) pss_nil)))
        (pss_one (ps_ret (pv 2))))), ?_⟩
  intro q hq
  refine ⟨_, rfl, pa, rfl, ⟨_, sqT_frz (same_new hq _ _ ep)⟩, for_tup (xs := pxs) (fun i σ H' => FilledK H q (kindsE (ps.take i)) H' ∧ ∃ o3 o4, σ = [some (.ref wx), some (.ref pa), some (.ref q), o3, o4]) ⟨⟨same_new hq, [], upd_same, .nil⟩, _, _, rfl⟩
    (fun i σ H' _ z => sqT_frz (z.1.1 _ _ ep)) ?_ ?_⟩
  · rintro i x σ H' hx ⟨⟨s1, kvs, hd, kv⟩, o3, o4, rfl⟩
    obtain ⟨pp, hp, ix⟩ := iml_map ip hx
    obtain ⟨xa, x1, x2, rfl, ex, j1, j2⟩ := im2 (ix.mono (Tk.of s1))
    cases im_str j1
    cases im_str j2
    have hkn := hk pp (List.mem_of_getElem? hp)
    refine ⟨xa, _, rfl, SqT.of ex, rfl, _, _, rfl, _, _, rfl, rfl, ?_⟩
    refine ⟨_, rfl, _, rfl, wx, ks, pp.2, rfl, hw.mono s1, rfl, hkn, rfl, _, rfl, iteT ?_⟩
    have hlen : kvs.length ≤ 1000 := by
      rw [kv.length]
      show ((ps.take i).map _).length ≤ 1000
      rw [List.length_map, List.length_take]
      omega
    refine ⟨_, rfl, _, rfl, wx, ks, pp.2, rfl, hw.mono s1, rfl, hkn, _, rfl, _, rfl, q, _, rfl, DPut.k (k := Sum.inr pp.1) hd (lt_size (by omega)), ?_, _, _, rfl⟩
    have z := FilledK.put hq s1 hd kv (x := pp.1) (d := .str pp.2) (.str pp.2)
    rw [show putE (kindsE (ps.take i)) pp.1 (.str pp.2) = kindsE (ps.take (i + 1)) from putE_step (f := fun p : Str × Str => Da.str p.2) hn hp] at z
    exact z
  · rintro σ H' ⟨hf, o3, o4, rfl⟩
    rw [ip.length, List.length_map, List.take_length] at hf
    exact ⟨_, rfl, k1 _ _ hq hf⟩
theorem ok_boxes_over_waysL (T : Txt K mg) (c_goes_to : C8.Cal P w K mg base 1 "goes_to" spGoes []) : C8.Cal P w K mg base 2 "boxes_over_ways" spBowL [] := by
  refine mkCal (f_boxes_over_ways T) (g_boxes_over_ways T) sc_boxes_over_ways (fun _ _ _ _ _ _ us hl => match us, hl with | [_, _], _ => rfl) (fun vs H Q E h => ?_) (fun vs H Q E h => ?_)
  · obtain ⟨a, b, rfl, _⟩ := sp2_len h
    rfl
  obtain ⟨a, b, rfl, h⟩ := sp2_len h
  intro cdv A outer s E hr
  have hu := hu_of hr
  obtain ⟨wx, ks, pa, xa, x, k, rfl, hw, rfl, hp, hx, hk, k1⟩ := h
  refine ⟨_, (pss_cons (ps_set (i := 2) sc_boxes_over_ways.nd rfl (by first | exact .inl rfl | exact .inr rfl) pe_dnewK)
        (pss_cons (ps_for PassesOwn.never rfl (pi_list (pv 1)) (pg_tup rfl (pgs_cons (pg_name (i := 3) sc_boxes_over_ways.nd rfl (by first | exact .inl rfl | exact .inr rfl)) (pgs_cons (pg_name (i := 4) sc_boxes_over_ways.nd rfl (by first | exact .inl rfl | exact .inr rfl)) pgs_nil))) (pss_one (ps_if (pt_cmpR op_notN (C8.pe_c c_goes_to hr (by omega) rfl (pa_cons (pv 0) (pa_cons (pv 4) pa_nil))) pe_non (nomark _)) (pss_one (ps_dput hu (pv 2) (pv 3) (C8.pe_c c_goes_to hr (by omega) rfl (pa_cons (pv 0) (pa_cons (pv 4) pa_nil))) rfl)) pss_nil)))
        (pss_one (ps_ret (pv 2))))), ?_⟩
  intro q hq
  refine ⟨_, rfl, pa, rfl, ⟨_, SqL.of (same_new hq _ _ hp)⟩, for_list (xs := [.ref xa]) (fun i σ H' => FilledK H q (([(x, .str k)] : List (Str × Da)).take i) H' ∧ ∃ o3 o4, σ = [some (.ref wx), some (.ref pa), some (.ref q), o3, o4]) ⟨⟨same_new hq, [], upd_same, .nil⟩, _, _, rfl⟩
    (fun i σ H' _ z => SqL.of (z.1.1 _ _ hp)) ?_ ?_⟩
  · rintro i y σ H' hy ⟨⟨s1, kvs, hd, kv⟩, o3, o4, rfl⟩
    have hi : i = 0 := by
      have := (List.getElem?_eq_some_iff.mp hy).1
      simpa using this
    subst hi
    have hy' : y = .ref xa := by simpa using hy.symm
    subst hy'
    refine ⟨xa, _, rfl, SqT.of (s1 _ _ hx), rfl, _, _, rfl, _, _, rfl, rfl, ?_⟩
    refine ⟨_, rfl, _, rfl, wx, ks, k, rfl, hw.mono s1, rfl, hk, rfl, _, rfl, iteT ?_⟩
    have hlen : kvs.length = 0 := kv.length
    refine ⟨_, rfl, _, rfl, wx, ks, k, rfl, hw.mono s1, rfl, hk, _, rfl, _, rfl, q, _, rfl, DPut.k (k := Sum.inr x) hd (lt_size (by omega)), ?_, _, _, rfl⟩
    exact FilledK.put hq s1 hd kv (x := x) (d := .str k) (.str k)
  · rintro σ H' ⟨hf, o3, o4, rfl⟩
    exact ⟨_, rfl, k1 _ _ hq hf⟩
/- look_term: slots 0 kinds 1 term 2 boxes 3 goal -/
theorem sc_look_term : FnScope ["kinds", "term", "boxes", "goal"] ["kinds", "term", "boxes", "goal"] (defScope s_look_term) := ⟨rfl, rfl, rfl, by decide +kernel, rfl, by decide +kernel, by decide +kernel⟩
theorem ok_look_term (T : Txt K mg) (c_kind_of : C8.Cal P w K mg base 6 "kind_of" (spK KO1) []) : C8.Cal P w K mg base 7 "look_term" spLookT [] := by
  refine mkCal (f_look_term T) (g_look_term T) sc_look_term (fun _ _ _ _ _ _ us hl => match us, hl with | [_, _, _, _], _ => rfl) (fun vs H Q E h => ?_) (fun vs H Q E h => ?_)
  · obtain ⟨a, b, c, d, rfl, _⟩ := sp4_len h
    rfl
  obtain ⟨a, b, c, d, rfl, h⟩ := sp4_len h
  intro cdv A outer s E hr
  have hu := hu_of hr
  obtain ⟨ks, ρ, t, k, kvs, bx, h1, h2, rfl, hbx, hkv, rfl, hk, k1⟩ := h
  refine ⟨_, (pss_one (ps_if (pt_cmpR op_ne (C8.pe_c c_kind_of hr (by omega) rfl (pa_cons (pv 0) (pa_cons (pv 1) (pa_cons (pv 2) pa_nil)))) (pv 3) (nomark _)) (pss_one ps_never) pss_nil)), ?_⟩
  refine ⟨_, rfl, _, rfl, _, rfl, ks, ρ, t, k, kvs, bx, h1, h2, rfl, hbx, hkv, hk, fun H1 s1 => ?_⟩
  refine ⟨_, rfl, rfl, _, rfl, ?_⟩
  rw [strT]
  exact iteF (k1 _ s1)
/- is_term: slots 0 how -/
theorem sc_is_term : FnScope ["how"] ["how"] (defScope s_is_term) := ⟨rfl, rfl, rfl, by decide +kernel, rfl, by decide +kernel, by decide +kernel⟩
theorem ok_is_term (T : Txt K mg) : C8.Cal P w K mg base 1 "is_term" spIsT [] := by
  refine mkCal (f_is_term T) (g_is_term T) sc_is_term (fun _ _ _ _ _ _ us hl => match us, hl with | [_], _ => rfl) (fun vs H Q E h => ?_) (fun vs H Q E h => ?_)
  · obtain ⟨a, rfl, _⟩ := sp1_len h
    rfl
  obtain ⟨a, rfl, h⟩ := sp1_len h
  intro cdv A outer s E hr
  have hu := hu_of hr
  refine ⟨_, (pss_one (ps_ret (pe_and (pe_cmpR op_gt (pe_callB call_len rfl (z_len T) PySem.boot_len (pa_cons (pv 0) pa_nil)) pe_int (nomark _)) (pe_one (pe_callB call_isi rfl (z_isinstance T) (by decide +kernel) (pa_cons (pe_ix ix_tup (pv 0) pe_int (fun _ _ => rfl)) (pa_cons (pe_bltn (v := .ty "str") rfl (z_str T) (by decide +kernel) rfl) pa_nil))))))), ?_⟩
  rcases h with ⟨x, r, h, k1⟩ | ⟨l, h, hall, k1⟩
  · obtain ⟨p, xs, rfl, ep, il⟩ := im_tup h
    obtain ⟨y, ys, rfl, iy, _⟩ := iml_cons il
    cases im_str iy
    refine ⟨_, rfl, _, _, rfl, .inr ⟨_, SqT.of ep, rfl⟩, _, _, rfl, rfl, _, rfl, ?_⟩
    rw [decide_eq_true (by show (0 : Int) < ((ys.length + 1 : Nat) : Int); omega)]
    refine iteT ?_
    exact ⟨_, rfl, p, _, _, _, rfl, rfl, SqT.of ep, at0, _, _, _, _, _, rfl, .ty _, .base (.str _), kit_ty (by decide +kernel), k1⟩
  · obtain ⟨p, po, xs, rfl, ep, _, il⟩ := im_pt h
    refine ⟨_, rfl, _, _, rfl, .inr ⟨_, sqT_frz ep, rfl⟩, _, _, rfl, rfl, _, rfl, ?_⟩
    cases l with
    | nil =>
      cases iml_nil il
      exact iteF k1
    | cons d l =>
      obtain ⟨y, ys, rfl, iy, _⟩ := iml_cons il
      obtain ⟨r, rfl⟩ := hall d List.mem_cons_self
      obtain ⟨p2, zs, rfl, ep2, _⟩ := im_tup iy
      rw [decide_eq_true (by show (0 : Int) < ((ys.length + 1 : Nat) : Int); omega)]
      refine iteT ?_
      exact ⟨_, rfl, p, _, _, _, rfl, rfl, sqT_frz ep, at0, _, _, _, _, _, rfl, .ty _, .base (.tup ep2), kit_ty (by decide +kernel), k1⟩
/- look_arms: slots 0 kinds 1 how 2 ways 3 parts 4 goal 5 t 6 term 7 tag 8 kind -/
theorem sc_look_arms : FnScope ["kinds", "how", "ways", "parts", "goal", "t", "term", "tag", "kind"] ["kinds", "how", "ways", "parts", "goal"] (defScope s_look_arms) := ⟨rfl, rfl, rfl, by decide +kernel, rfl, by decide +kernel, by decide +kernel⟩
theorem ok_look_arms (T : Txt K mg) (c_look_term : C8.Cal P w K mg base 7 "look_term" spLookT []) (c_boxes_over_waysL : C8.Cal P w K mg base 2 "boxes_over_ways" spBowL []) : C8.Cal P w K mg base 8 "look_arms" spLookA [] := by
  refine mkCal (f_look_arms T) (g_look_arms T) sc_look_arms (fun _ _ _ _ _ _ us hl => match us, hl with | [_, _, _, _, _], _ => rfl) (fun vs H Q E h => ?_) (fun vs H Q E h => ?_)
  · obtain ⟨a, b, c, d, e, rfl, _⟩ := sp5_len h
    rfl
  obtain ⟨a, b, c, d, e, rfl, h⟩ := sp5_len h
  intro cdv A outer s E hr
  have hu := hu_of hr
  obtain ⟨ks, wx, kd, h0, hal, ok, h1, rfl, hw, h2, rfl, k1⟩ := h
  have eh : howD kd = .pt (kd.parts.map (armD kd)) := by unfold howD; rw [hal]
  rw [eh] at h1
  obtain ⟨ha, ho, hxs, rfl, eh, _, ih⟩ := im_pt h1
  obtain ⟨pa, po, pxs, rfl, ep, _, ip⟩ := im_pt h2
  have l1 : hxs.length = kd.parts.length := by rw [ih.length, List.length_map]
  have l2 : pxs.length = kd.parts.length := by rw [ip.length, List.length_map]
  refine ⟨_, (pss_cons (ps_if (pt_cmpR (op_neX hr.units) (pe_lc (own := [("t", 5), ("term", 6)]) rfl sc_look_arms.nd (pi_tup (pv 1)) (blkOk_by (N := ["kinds", "how", "ways", "parts", "goal", "t", "term", "tag", "kind"]) (sc := defScope s_look_arms) (by decide +kernel)) (fun _ _ _ _ _ => (pgT (K := K) (n := 2) rfl rfl (pgs_cons (pg_name (i := 5) sc_look_arms.nd rfl (by first | exact .inl rfl | exact .inr rfl)) (pgs_cons (pg_name (i := 6) sc_look_arms.nd rfl (by first | exact .inl rfl | exact .inr rfl)) pgs_nil)))) (fun _ _ _ _ _ => pts_nil) (fun _ _ _ _ _ => (pv 5))) (pe_lc (own := [("t", 5), ("kind", 8)]) rfl sc_look_arms.nd (pi_tup (pv 3)) (blkOk_by (N := ["kinds", "how", "ways", "parts", "goal", "t", "term", "tag", "kind"]) (sc := defScope s_look_arms) (by decide +kernel)) (fun _ _ _ _ _ => (pgT (K := K) (n := 2) rfl rfl (pgs_cons (pg_name (i := 5) sc_look_arms.nd rfl (by first | exact .inl rfl | exact .inr rfl)) (pgs_cons (pg_name (i := 8) sc_look_arms.nd rfl (by first | exact .inl rfl | exact .inr rfl)) pgs_nil)))) (fun _ _ _ _ _ => pts_nil) (fun _ _ _ _ _ => (pv 5))) (nomark _)) (pss_one ps_never) pss_nil)
        (pss_one (ps_for PassesOwn.never rfl (RZ.pi_zipA rfl (z_zip T) (pa_cons (pv 1) (pa_cons (pv 3) pa_nil))) (pg_tup rfl (pgs_cons (pg_tup rfl (pgs_cons (pg_name (i := 5) sc_look_arms.nd rfl (by first | exact .inl rfl | exact .inr rfl)) (pgs_cons (pg_name (i := 6) sc_look_arms.nd rfl (by first | exact .inl rfl | exact .inr rfl)) pgs_nil))) (pgs_cons (pg_tup rfl (pgs_cons (pg_name (i := 7) sc_look_arms.nd rfl (by first | exact .inl rfl | exact .inr rfl)) (pgs_cons (pg_name (i := 8) sc_look_arms.nd rfl (by first | exact .inl rfl | exact .inr rfl)) pgs_nil))) pgs_nil))) (pss_one (ps_expr (C8.pe_c c_look_term hr (by omega) rfl (pa_cons (pv 0) (pa_cons (pv 6) (pa_cons (C8.pe_c c_boxes_over_waysL hr (by omega) rfl (pa_cons (pv 2) (pa_cons (pe_lst (pa_cons (pe_tup (pa_cons pe_str (pa_cons (pv 8) pa_nil))) pa_nil)) pa_nil))) (pa_cons (pv 4) pa_nil)))))))))), ?_⟩
  refine ⟨_, rfl, ha, rfl, ⟨_, sqT_frz eh⟩, fun D hD => lc_tup (K := K) (a := ha) (xs := hxs) (fun i H' => Same H H' ∧ H' D = some (.lst (((kd.parts.take i).map (·.1)).map V.str))) ⟨same_new hD, upd_same⟩ (fun i H' _ q => sqT_frz (q.1 _ _ eh)) (fun i x H' hx q => ?_) (fun H' q => ?_)⟩
  · obtain ⟨s1, hacc⟩ := q
    obtain ⟨p1, hp1, ix⟩ := iml_map ih hx
    obtain ⟨qa, y1, y2, rfl, eq, i1, i2⟩ := im2 (ix.mono (Tk.of s1))
    cases im_str i1
    refine ⟨qa, _, rfl, SqT.of eq, rfl, _, _, rfl, _, _, rfl, rfl, rfl, lcY (iteT ?_)⟩
    refine ⟨_, rfl, _, hacc, ?_, same_put s1 hD, ?_⟩
    · rw [List.length_map, List.length_map, List.length_take]
      exact lt_size (by have := ok.few; omega)
    · rw [upd_same, take_snoc hp1, List.map_append, List.map_append]
      rfl
  · obtain ⟨s1, hacc⟩ := q
    rw [l1, List.take_length] at hacc
    refine ⟨_, rfl, pa, rfl, ⟨_, sqT_frz (s1 _ _ ep)⟩, fun D2 hD2 => lc_tup (K := K) (a := pa) (xs := pxs) (fun i H2 => Same H' H2 ∧ H2 D2 = some (.lst (((kd.parts.take i).map (·.1)).map V.str))) ⟨same_new hD2, upd_same⟩ (fun i H2 _ q => sqT_frz (q.1 _ _ (s1 _ _ ep))) (fun i x H2 hx q => ?_) (fun H2 q => ?_)⟩
    · obtain ⟨s2, hacc2⟩ := q
      obtain ⟨p1, hp1, ix⟩ := iml_map ip hx
      obtain ⟨qa, y1, y2, rfl, eq, i1, i2⟩ := im2 (ix.mono (Tk.of (s1.trans s2)))
      cases im_str i1
      refine ⟨qa, _, rfl, SqT.of eq, rfl, _, _, rfl, _, _, rfl, rfl, rfl, lcY (iteT ?_)⟩
      refine ⟨_, rfl, _, hacc2, ?_, same_put s2 hD2, ?_⟩
      · rw [List.length_map, List.length_map, List.length_take]
        exact lt_size (by have := ok.few; omega)
      · rw [upd_same, take_snoc hp1, List.map_append, List.map_append]
        rfl
    · obtain ⟨s2, hacc2⟩ := q
      rw [l2, List.take_length] at hacc2
      refine ⟨1, by decide, eqS_strs (s2 _ _ hacc) hacc2, _, rfl, iteF ?_⟩
      have s3 := s1.trans s2
      refine ⟨_, rfl, _, rfl, ha, pa, hxs, pxs, rfl, .inr ⟨sqT_frz (s3 _ _ eh), sqT_frz (s3 _ _ ep), RZ.for_zipT (by rw [l1, l2]) (fun i σ H' => Same H H' ∧ ∃ o5 o6 o7 o8, σ = [some a, some (.ref ha), some (.ref wx), some (.ref pa), some (.str kd.name), o5, o6, o7, o8]) ⟨s3, _, _, _, _, rfl⟩
        (fun i σ H' q => ⟨sqT_frz (q.1 _ _ eh), sqT_frz (q.1 _ _ ep)⟩) ?_ ?_⟩⟩
      · rintro i x y q σ H3 hx hy ⟨s4, o5, o6, o7, o8, rfl⟩ hq
        obtain ⟨pp, hp, ix⟩ := iml_map ih hx
        obtain ⟨pp', hp', iy⟩ := iml_map ip hy
        rw [hp] at hp'
        cases hp'
        have s5 : Same H (upd H3 q (.tup [x, y])) := s4.trans (same_new hq)
        obtain ⟨xa, x1, x2, rfl, ex, j1, j2⟩ := im2 (ix.mono (Tk.of s5))
        cases im_str j1
        obtain ⟨ya, y1, y2, rfl, ey, j3, j4⟩ := im2 (iy.mono (Tk.of s5))
        cases im_str j3
        cases im_str j4
        refine ⟨q, _, rfl, SqT.of upd_same, rfl, _, _, rfl, ⟨xa, _, rfl, SqT.of ex, rfl, _, _, rfl, _, _, rfl, rfl, _, _, rfl, ⟨ya, _, rfl, SqT.of ey, rfl, _, _, rfl, _, _, rfl, rfl, rfl, ?_⟩⟩⟩
        refine ⟨_, rfl, _, rfl, _, rfl, _, rfl, ⟨le_size (by show 2 ≤ 100000; decide), fun tq htq => ⟨le_size (by show 1 ≤ 100000; decide), fun lq hlq => ?_⟩⟩⟩
        have s6 : Same H _ := s5.trans ((same_new htq).trans (same_new (o := .lst [.ref tq]) hlq))
        refine ⟨wx, ks, lq, tq, "it", pp.2, rfl, hw.mono s6, rfl, upd_same, same_new hlq _ _ upd_same, ok.know pp (List.mem_of_getElem? hp), fun H4 bq hbq hf => ?_⟩
        obtain ⟨s7, kvs, hbk, hkv⟩ := hf
        have s8 := s6.trans s7
        exact ⟨_, rfl, ks, _, _, kd.name, kvs, bq, h0.mono (Tk.of s8), j2.mono (Tk.of (((same_new htq).trans (same_new hlq)).trans s7)), rfl, rd_of hbk, hkv, rfl, .inr (.inr ⟨kd, pp.1, pp.2, "it", ok.here, hal, lkE_of_mem ok.parts (List.mem_of_getElem? hp), rfl, rfl⟩), fun H5 s9 => ⟨s8.trans s9, _, _, _, _, rfl⟩⟩
      · rintro σ H3 ⟨s4, o5, o6, o7, o8, rfl⟩
        exact k1 _ s4
end
end SwK
set_option maxHeartbeats 8000000
/-! the ways of a make into itself: looked at -/
namespace SwK
open PySem PySem.Spec PyProof.Rows L2
def spLookWs : Sp := sp3 fun a b c H Q => ∃ m wx kvs, Im H a (Mk0.d m) ∧ Im H b (Mk0.d m) ∧ c = .ref wx ∧ H wx = some (.dK kvs) ∧ KvI H kvs (waysE m.kinds) ∧ (∀ kd ∈ m.kinds, KdOk m.kinds kd) ∧ (m.kinds.map (·.name)).Nodup ∧ ∀ H', Same H H' → Q (.bl true) H'
theorem same_lock {H H' : Hp} {d : Addr} {od : Obj} {u : HO} (h : H d = some u) (s : Same (upd H d (.frz od u)) H') : Same H (upd H' d u) := fun b o e => by
  by_cases hb : b = d
  · subst hb
    rw [upd_same, ← e, h]
  · rw [upd_ne hb]
    exact s _ _ (by rw [upd_ne hb]; exact e)
/-- what stood before D was laid stands, but D itself -/
theorem tk_back {H0 H' : Hp} {D : Addr} {xs : List V} (s : Same H0 H') (hD : H0 D = none) : Tk (upd H0 D (.lst xs)) H' := fun b o e t => by
  by_cases hb : b = D
  · subst hb
    rw [upd_same] at e
    cases e
    exact t.elim
  · rw [upd_ne hb] at e
    exact s _ _ e
theorem ip_keep {K : PySem.W.Frag} {H0 H' : Hp} {D a : Addr} {o : Obj} {xs ys : List V} (_ : Same H0 (upd H0 D (.lst ys))) (hD : H0 D = none) (e : upd H0 D (.lst ys) a = some (.frz o (.tup xs))) (s : Same H0 H') : SqT K H' a xs :=
  sqT_frz (tk_back s hD _ _ e trivial)
theorem pairs_im {K : PySem.W.Frag} {H : Hp} {v : V} {ps : List (Str × Str)} (h : Im H v (partsD ps)) : ∃ a o qs, v = .ref a ∧ H a = some (.frz o (.tup (qs.map V.ref))) ∧ o.dict = none ∧
    Paired (fun (p : Addr) (kv : Key × V) => SqT K H p [kV kv.1, kv.2]) qs (ps.map fun p => (Sum.inr p.1, V.str p.2)) := by
  obtain ⟨a, o, xs, rfl, e, hd, l⟩ := im_pt h
  have key : ∀ {ps : List (Str × Str)} {xs : List V}, ImL H xs (ps.map pairD) → ∃ qs, xs = qs.map V.ref ∧ Paired (fun (p : Addr) (kv : Key × V) => SqT K H p [kV kv.1, kv.2]) qs (ps.map fun p => (Sum.inr p.1, V.str p.2)) := by
    intro ps
    induction ps with
    | nil =>
      intro xs l
      cases iml_nil l
      exact ⟨[], rfl, .nil⟩
    | cons p ps ih =>
      intro xs l
      obtain ⟨x, r, rfl, ix, lr⟩ := iml_cons l
      obtain ⟨qa, y1, y2, rfl, eq, i1, i2⟩ := im2 ix
      cases im_str i1
      cases im_str i2
      obtain ⟨qs, rfl, hp⟩ := ih lr
      exact ⟨qa :: qs, rfl, .cons (SqT.of eq) hp⟩
  obtain ⟨qs, rfl, hp⟩ := key l
  exact ⟨a, o, qs, rfl, e, hd, hp⟩
theorem kvI_merge {H : Hp} {ls : List (Key × V)} {μ : List (Str × Da)} (g : KvI H ls μ) : ∀ {ks : List (Key × V)} {ρ : List (Str × Da)}, KvI H ks ρ → ((ρ ++ μ).map (·.1)).Nodup → KvI H (mergeK ks ls) (ρ ++ μ) := by
  induction g with
  | nil =>
    intro ks ρ h _
    rw [List.append_nil]
    exact h
  | @cons x v d kvs μ a _ ih =>
    intro ks ρ h hn
    show KvI H (mergeK (putK ks (Sum.inr x) v) kvs) _
    have hx : ¬ x ∈ ρ.map (·.1) := fun hm => by
      rw [List.map_append, List.map_cons] at hn
      have := (List.nodup_append.mp hn).2.2 x hm x List.mem_cons_self
      exact this rfl
    have z := h.put a (x := x)
    rw [putE_new d hx] at z
    have e : ρ ++ (x, d) :: μ = (ρ ++ [(x, d)]) ++ μ := by rw [List.append_assoc]; rfl
    rw [e] at hn ⊢
    exact ih z hn
theorem kvI_parts {H : Hp} {ps : List (Str × Str)} (hn : (ps.map (·.1)).Nodup) : KvI H (mergeK [] (ps.map fun p => (Sum.inr p.1, V.str p.2))) (kindsE ps) := by
  have g : KvI H (ps.map fun p => ((Sum.inr p.1 : Key), V.str p.2)) (kindsE ps) := by
    unfold kindsE
    clear hn
    induction ps with
    | nil => exact .nil
    | cons p ps ih => exact .cons (.str _) ih
  have := kvI_merge g (ks := []) (ρ := []) .nil (by unfold kindsE; rw [List.nil_append, List.map_map]; exact hn)
  exact this
/-- the rule of a rec (alt false), of an alt -/
def spRule (al : Bool) : Sp := sp4 fun a b c d H Q => ∃ m wx ks kd, Im H a (Mk0.d m) ∧ Im H b (Mk0.d m) ∧ c = .ref wx ∧ WaysAt H wx ks ∧ (∀ p ∈ kd.parts, Knows ks p.2) ∧ KdOk m.kinds kd ∧ d = .str kd.name ∧ kd.alt = al ∧ ∀ H' r, Same H H' → Im H' (.ref r) (howD kd) → Q (.ref r) H'
section
variable {P : Program} {w : World} {K : PySem.W.Frag} {mg : Str → Option Value} {base : Heap}
/- look_way: slots 0 first 1 second 2 ways 3 name 4 sort 5 goal 6 how 7 parts -/
theorem sc_look_way : FnScope ["first", "second", "ways", "name", "sort", "goal", "how", "parts"] ["first", "second", "ways", "name"] (defScope s_look_way) := ⟨rfl, rfl, rfl, by decide +kernel, rfl, by decide +kernel, by decide +kernel⟩
theorem ok_look_way (T : Txt K mg) (c_sort_of : C8.Cal P w K mg base 2 "sort_of" spSortOf []) (c_parts_of : C8.Cal P w K mg base 2 "parts_of" spPartsOf []) (c_is_term : C8.Cal P w K mg base 1 "is_term" spIsT [])
    (c_look_term : C8.Cal P w K mg base 7 "look_term" spLookT []) (c_look_arms : C8.Cal P w K mg base 8 "look_arms" spLookA []) (c_boxes_over_ways : C8.Cal P w K mg base 2 "boxes_over_ways" spBow []) : C8.Cal P w K mg base 9 "look_way" spLookW [] := by
  refine mkCal (f_look_way T) (g_look_way T) sc_look_way (fun _ _ _ _ _ _ us hl => match us, hl with | [_, _, _, _], _ => rfl) (fun vs H Q E h => ?_) (fun vs H Q E h => ?_)
  · obtain ⟨a, b, c, d, rfl, _⟩ := sp4_len h
    rfl
  obtain ⟨a, b, c, d, rfl, h⟩ := sp4_len h
  intro cdv A outer s E hr
  have hu := hu_of hr
  obtain ⟨m, wx, kd, h1, h2, rfl, ⟨kvs, hw1, hw2⟩, ok, hkm, rfl, hn, k1⟩ := h
  have hw : WaysAt H wx m.kinds := ⟨kvs, hw1, hw2⟩
  obtain ⟨fa, f1, f2, f3, rfl, ef, j1, j2, j3⟩ := im3 h1
  obtain ⟨sa, s1, s2, s3, rfl, es, i1, i2, i3⟩ := im3 h2
  have hl : lkE (waysE m.kinds) kd.name = some (wayD kd) := lkE_map (g := fun k : Kd => k.name) (f := wayD) hn hkm
  obtain ⟨u, u1, u2⟩ := hw2.has hl
  obtain ⟨ua, v1, v2, rfl, eu, w1, w2⟩ := im2 u2
  cases im_str w1
  refine ⟨_, (pss_cons (ps_set (i := 4) sc_look_way.nd rfl (by first | exact .inl rfl | exact .inr rfl) (C8.pe_c c_sort_of hr (by omega) rfl (pa_cons (pe_ix ix_tup (pv 0) pe_int (fun _ _ => rfl)) (pa_cons (pv 3) pa_nil))))
        (pss_cons (ps_asg (pe_dget hu (pv 2) (pv 3) (fun _ _ => rfl)) (pg_tup rfl (pgs_cons (pg_name (i := 5) sc_look_way.nd rfl (by first | exact .inl rfl | exact .inr rfl)) (pgs_cons (pg_name (i := 6) sc_look_way.nd rfl (by first | exact .inl rfl | exact .inr rfl)) pgs_nil))))
        (pss_cons (ps_if (PW.pt (pw_or (pt_cmpR op_isN (pv 4) pe_non (nomark _)) (pw_or1 (PW.pt (pw_and (pt_cmpR op_ne (pv 5) pe_str (nomark _)) (pw_and1 (pt_cmpR op_isN (C8.pe_c c_sort_of hr (by omega) rfl (pa_cons (pe_ix ix_tup (pv 1) pe_int (fun _ _ => rfl)) (pa_cons (pv 5) pa_nil))) pe_non (nomark _)))))))) (pss_one ps_never) pss_nil)
        (pss_cons (ps_set (i := 7) sc_look_way.nd rfl (by first | exact .inl rfl | exact .inr rfl) (C8.pe_c c_parts_of hr (by omega) rfl (pa_cons (pe_ix ix_tup (pv 0) pe_int (fun _ _ => rfl)) (pa_cons (pv 3) pa_nil))))
        (pss_cons (ps_if (pt_cmpR op_ne (C8.pe_c c_is_term hr (by omega) rfl (pa_cons (pv 6) pa_nil)) (pe_cmpR op_eq (pv 4) pe_str (nomark _)) (nomark _)) (pss_one ps_never) pss_nil)
        (pss_one (ps_if (pt_cmpR op_eq (pv 4) pe_str (nomark _)) (pss_one (ps_expr (C8.pe_c c_look_term hr (by omega) rfl (pa_cons (pe_ix ix_tup (pv 1) pe_int (fun _ _ => rfl)) (pa_cons (pv 6) (pa_cons (C8.pe_c c_boxes_over_ways hr (by omega) rfl (pa_cons (pv 2) (pa_cons (pv 7) pa_nil))) (pa_cons (pv 5) pa_nil))))))) (pss_one (ps_expr (C8.pe_c c_look_arms hr (by omega) rfl (pa_cons (pe_ix ix_tup (pv 1) pe_int (fun _ _ => rfl)) (pa_cons (pv 6) (pa_cons (pv 2) (pa_cons (pv 7) (pa_cons (pv 5) pa_nil))))))))))))))), ?_⟩
  refine ⟨_, rfl, fa, _, _, _, rfl, rfl, SqT.of ef, at0, _, rfl, m.kinds, kd.name, j1, rfl, fun kd' e => ?_, fun e => by rw [ok.here] at e; cases e⟩
  rw [ok.here] at e
  cases e
  refine ⟨_, rfl, _, rfl, wx, _, rfl, u1 ▸ dget_s hw1, ua, _, rfl, SqT.of eu, rfl, _, _, rfl, _, _, rfl, rfl, ?_⟩
  refine ⟨_, rfl, rfl, _, rfl, iteF ⟨_, rfl, rfl, _, rfl, ?_⟩⟩
  rw [strF ok.num]
  refine iteT ⟨_, rfl, sa, _, _, _, rfl, rfl, SqT.of es, at0, _, rfl, m.kinds, kd.name, i1, rfl, fun kd' e => ?_, fun e => by rw [ok.here] at e; cases e⟩
  rw [ok.here] at e
  cases e
  refine ⟨rfl, _, rfl, iteF ?_⟩
  refine ⟨_, rfl, fa, _, _, _, rfl, rfl, SqT.of ef, at0, _, rfl, m.kinds, kd.name, kd, j1, rfl, ok.here, fun v iv => ?_⟩
  cases hal : kd.alt with
  | false =>
    have eh : howD kd = .tup [.str "rec", .str kd.name, .tup (kd.parts.map fun p => boxD p.1)] := by unfold howD; rw [hal]
    rw [eh] at w2
    refine ⟨_, rfl, .inl ⟨_, _, w2, _, rfl, rfl, rfl, _, rfl, iteF ?_⟩⟩
    refine ⟨_, rfl, rfl, _, rfl, ifTD ?_⟩
    refine ⟨_, rfl, sa, _, _, _, rfl, rfl, SqT.of es, at0, _, rfl, _, rfl, _, rfl, wx, m.kinds, kd.parts, rfl, hw, iv, ok.know, ok.parts, ok.few, fun H2 q hq hf => ?_⟩
    obtain ⟨t1, kvs2, hbk, hkv⟩ := hf
    exact ⟨_, rfl, m.kinds, kindsE kd.parts, _, kd.name, kvs2, q, i1.mono (Tk.of t1), w2.mono (Tk.of t1), rfl, rd_of hbk, hkv, rfl, .inr (.inl ⟨kd, ok.here, hal, rfl, fun p hp => lkE_map (g := fun p : Str × Str => p.1) (f := fun p => Da.str p.2) ok.parts hp⟩), fun H3 t2 => k1 _ (t1.trans t2)⟩
  | true =>
    have eh : howD kd = .pt (kd.parts.map (armD kd)) := by unfold howD; rw [hal]
    have w2' := w2
    rw [eh] at w2'
    refine ⟨_, rfl, .inr ⟨_, w2', fun d hd => ?_, _, rfl, rfl, rfl, _, rfl, iteF ?_⟩⟩
    · obtain ⟨p, _, rfl⟩ := List.mem_map.mp hd
      exact ⟨_, rfl⟩
    refine ⟨_, rfl, rfl, _, rfl, ifFD (by decide +kernel) ?_⟩
    exact ⟨_, rfl, sa, _, _, _, rfl, rfl, SqT.of es, at0, _, rfl, _, rfl, _, rfl, _, rfl, m.kinds, wx, kd, i1, hal, ok, w2, rfl, hw, iv, rfl, fun H3 t2 => k1 _ t2⟩
/- look_ways: slots 0 first 1 second 2 ways 3 name -/
theorem sc_look_ways : FnScope ["first", "second", "ways", "name"] ["first", "second", "ways"] (defScope s_look_ways) := ⟨rfl, rfl, rfl, by decide +kernel, rfl, by decide +kernel, by decide +kernel⟩
theorem ok_look_ways (T : Txt K mg) (c_look_way : C8.Cal P w K mg base 9 "look_way" spLookW []) : C8.Cal P w K mg base 10 "look_ways" spLookWs [] := by
  refine mkCal (f_look_ways T) (g_look_ways T) sc_look_ways (fun _ _ _ _ _ _ us hl => match us, hl with | [_, _, _], _ => rfl) (fun vs H Q E h => ?_) (fun vs H Q E h => ?_)
  · obtain ⟨a, b, c, rfl, _⟩ := sp3_len h
    rfl
  obtain ⟨a, b, c, rfl, h⟩ := sp3_len h
  intro cdv A outer s E hr
  have hu := hu_of hr
  obtain ⟨m, wx, kvs, h1, h2, rfl, hw1, hw2, ok, hn, k1⟩ := h
  refine ⟨_, (pss_cons (ps_lock (ps_for PassesOwn.never rfl (pi_keys (pv 2)) (pg_name (i := 3) sc_look_ways.nd rfl (by first | exact .inl rfl | exact .inr rfl)) (pss_one (ps_expr (C8.pe_c c_look_way hr (by omega) rfl (pa_cons (pv 0) (pa_cons (pv 1) (pa_cons (pv 2) (pa_cons (pv 3) pa_nil)))))))))
        (pss_one (ps_ret pe_bl))), ?_⟩
  refine ⟨wx, _, hw1, trivial, fun od => ?_⟩
  have tk : Tk H (upd H wx (.frz od (.dK kvs))) := tk_put hw1 ntK
  refine ⟨_, rfl, wx, od, rfl, .inl ⟨kvs, upd_same, L2.for_it walk_keys (fun i σ H' => Same (upd H wx (.frz od (.dK kvs))) H' ∧ ∃ o3, σ = [some a, some b, some (.ref wx), o3]) ⟨Same.refl _, _, rfl⟩ (fun i σ H' _ z => z.1 _ _ upd_same) ?_ ?_⟩⟩
  · rintro i x σ H1 H' hi ⟨s1, o3, rfl⟩ ⟨rfl, k, v, hk, rfl⟩
    have hi2 : i < m.kinds.length := by
      have := hw2.length
      unfold waysE at this
      rw [List.length_map] at this
      omega
    obtain ⟨kd, hkd⟩ : ∃ kd, m.kinds[i]? = some kd := ⟨m.kinds[i], by simp⟩
    obtain ⟨v', e1, _⟩ := hw2.at (i := i) (x := kd.name) (d := wayD kd) (by unfold waysE; rw [List.getElem?_map, hkd]; rfl)
    rw [hk] at e1
    cases e1
    have tk2 : Tk H H' := tk.trans (Tk.of s1)
    refine ⟨_, rfl, _, rfl, _, rfl, _, rfl, m, wx, kd, h1.mono tk2, h2.mono tk2, rfl, ⟨kvs, .inr ⟨od, s1 _ _ upd_same⟩, hw2.mono tk2⟩, ok kd (List.mem_of_getElem? hkd), List.mem_of_getElem? hkd, rfl, hn, fun H3 s3 => ⟨s1.trans s3, _, rfl⟩⟩
  · rintro σ H' ⟨s1, o3, rfl⟩
    exact ⟨s1 _ _ upd_same, k1 _ (same_lock hw1 s1)⟩
/- rec_rule: slots 0 first 1 second 2 ways 3 name 4 parts 5 terms 6 f 7 kind -/
theorem sc_rec_rule : FnScope ["first", "second", "ways", "name", "parts", "terms", "f", "kind"] ["first", "second", "ways", "name"] (defScope s_rec_rule) := ⟨rfl, rfl, rfl, by decide +kernel, rfl, by decide +kernel, by decide +kernel⟩
theorem ok_rec_rule (T : Txt K mg) (c_parts_of : C8.Cal P w K mg base 2 "parts_of" spPartsOf []) (c_goes_to : C8.Cal P w K mg base 1 "goes_to" spGoes []) : C8.Cal P w K mg base 3 "rec_rule" (spRule false) [] := by
  refine mkCal (f_rec_rule T) (g_rec_rule T) sc_rec_rule (fun _ _ _ _ _ _ us hl => match us, hl with | [_, _, _, _], _ => rfl) (fun vs H Q E h => ?_) (fun vs H Q E h => ?_)
  · obtain ⟨a, b, c, d, rfl, _⟩ := sp4_len h
    rfl
  obtain ⟨a, b, c, d, rfl, h⟩ := sp4_len h
  intro cdv A outer s E hr
  have hu := hu_of hr
  obtain ⟨m, wx, ks, kd, h1, h2, rfl, hw, hkn, ok, rfl, hal, k1⟩ := h
  obtain ⟨fa, f1, f2, f3, rfl, ef, j1, j2, j3⟩ := im3 h1
  obtain ⟨sa, s1, s2, s3, rfl, es, i1, i2, i3⟩ := im3 h2
  refine ⟨_, (pss_cons (ps_set (i := 4) sc_rec_rule.nd rfl (by first | exact .inl rfl | exact .inr rfl) (pe_callTy (call_dictT rfl) rfl (z_dict T) (by decide +kernel) (pa_cons (C8.pe_c c_parts_of hr (by omega) rfl (pa_cons (pe_ix ix_tup (pv 0) pe_int (fun _ _ => rfl)) (pa_cons (pv 3) pa_nil))) pa_nil)))
        (pss_cons (ps_set (i := 5) sc_rec_rule.nd rfl (by first | exact .inl rfl | exact .inr rfl) (pe_lst pa_nil))
        (pss_cons (ps_for PassesOwn.never rfl (pi_tup (C8.pe_c c_parts_of hr (by omega) rfl (pa_cons (pe_ix ix_tup (pv 1) pe_int (fun _ _ => rfl)) (pa_cons (pv 3) pa_nil)))) (pg_tup rfl (pgs_cons (pg_name (i := 6) sc_rec_rule.nd rfl (by first | exact .inl rfl | exact .inr rfl)) (pgs_cons (pg_name (i := 7) sc_rec_rule.nd rfl (by first | exact .inl rfl | exact .inr rfl)) pgs_nil))) (pss_one (ps_if (pt_cmp (pc_dnotin hu (pv 6) (pv 4))) pss_never (pss_one (ps_if (pt_cmpR op_eq (C8.pe_c c_goes_to hr (by omega) rfl (pa_cons (pv 2) (pa_cons (pe_dget hu (pv 4) (pv 6) (fun _ _ => rfl)) pa_nil))) (pv 7) (nomark _)) (pss_one (ps_expr (pe_bm PySem.F.plainAttrs_list PySem.F.slot_list_append PySem.F.type_list_append mt_append (pv 5) (pa_cons (pe_tup (pa_cons pe_str (pa_cons (pv 6) pa_nil))) pa_nil)))) pss_never)))))
        (pss_one (ps_ret (pe_tup (pa_cons pe_str (pa_cons (pv 3) (pa_cons (pe_callTy call_tuple_of rfl (z_tuple T) (by decide +kernel) (pa_cons (pv 5) pa_nil)) pa_nil))))))))), ?_⟩
  refine ⟨_, rfl, fa, _, _, _, rfl, rfl, SqT.of ef, at0, _, rfl, m.kinds, kd.name, kd, j1, rfl, ok.here, fun v iv => ?_⟩
  obtain ⟨pa, po, qs, rfl, ep, hod, hpr⟩ := pairs_im (K := K) iv
  refine ⟨pa, po, qs, _, rfl, ep, hod, hpr, fun D hD => ?_⟩
  have hkv : KvI (upd H D (.dK (mergeK [] (kd.parts.map fun p => (Sum.inr p.1, V.str p.2))))) (mergeK [] (kd.parts.map fun p => (Sum.inr p.1, V.str p.2))) (kindsE kd.parts) := kvI_parts ok.parts
  generalize mergeK [] (kd.parts.map fun p => (Sum.inr p.1, V.str p.2)) = pk at hkv ⊢
  have sD : Same H (upd H D (.dK pk)) := same_new hD
  refine ⟨le_size (by show 0 ≤ 100000; decide), fun l hl => ?_⟩
  have sl : Same (upd H D (.dK pk)) (upd (upd H D (.dK pk)) l (.lst [])) := same_new hl
  have s0 := sD.trans sl
  refine ⟨_, rfl, sa, _, _, _, rfl, rfl, SqT.of (s0 _ _ es), at0, _, rfl, m.kinds, kd.name, kd, i1.mono (Tk.of s0), rfl, ok.here, fun v iv => ?_⟩
  obtain ⟨pa2, po2, pxs, rfl, ep2, _, ip⟩ := im_pt iv
  have hpl : pxs.length = kd.parts.length := by rw [ip.length, List.length_map]
  refine ⟨pa2, rfl, ⟨_, sqT_frz ep2⟩, for_tup (xs := pxs) (fun i σ H' => Filled (upd H D (.dK pk)) l ((kd.parts.take i).map fun p => boxD p.1) H' ∧ ∃ o6 o7, σ = [some (.ref fa), some (.ref sa), some (.ref wx), some (.str kd.name), some (.ref D), some (.ref l), o6, o7]) ⟨⟨sl, [], upd_same, .nil⟩, _, _, rfl⟩
    (fun i σ H' hi z => ?_) ?_ ?_⟩
  · exact (ip_keep sl hl ep2 z.1.1)
  · rintro i x σ H' hx ⟨⟨t1, acc, hacc, iacc⟩, o6, o7, rfl⟩
    obtain ⟨pp, hp, ix⟩ := iml_map ip hx
    have tk1 : Tk (upd (upd H D (.dK pk)) l (.lst [])) H' := tk_back t1 hl
    obtain ⟨xa, x1, x2, rfl, ex, y1, y2⟩ := im2 (ix.mono tk1)
    cases im_str y1
    cases im_str y2
    have hpm := List.mem_of_getElem? hp
    obtain ⟨u, u1, u2⟩ := (hkv.mono (Tk.of t1)).has (lkE_map (g := fun p : Str × Str => p.1) (f := fun p => Da.str p.2) ok.parts hpm)
    cases im_str u2
    have hDd : H' D = some (.dK pk) := t1 _ _ upd_same
    refine ⟨xa, _, rfl, SqT.of ex, rfl, _, _, rfl, _, _, rfl, rfl, ?_⟩
    refine ⟨_, rfl, _, rfl, D, _, rfl, dget_s (rd_of hDd), _, rfl, ?_⟩
    rw [u1]
    refine iteF ?_
    refine ⟨_, rfl, _, rfl, _, rfl, D, _, rfl, u1 ▸ dget_s (rd_of hDd), wx, ks, pp.2, rfl, hw.mono (sD.trans t1), rfl, hkn pp hpm, ?_⟩
    refine ⟨_, rfl, rfl, _, rfl, ifTD ?_⟩
    refine ⟨_, rfl, .inl ⟨rfl, _, SqL.of hacc⟩, _, rfl, le_size (by show 2 ≤ 100000; decide), fun tq htq => ?_⟩
    have sq : Same H' (upd H' tq (.tup [.str "box", .str pp.1])) := same_new htq
    have hlen : acc.length ≤ 1000 := by
      rw [iacc.length, List.length_map, List.length_take]
      have := ok.few
      omega
    refine ⟨l, _, _, rfl, rfl, sq _ _ hacc, lt_size (by omega), ?_, _, _, rfl⟩
    rw [take_snoc hp, List.map_append]
    exact Filled.app hl (t1.trans sq) (sq _ _ hacc) (iacc.mono (Tk.of sq)) (im_new htq (.cons (.str _) (.cons (.str _) .nil)))
  · rintro σ H' ⟨⟨t1, acc, hacc, iacc⟩, o6, o7, rfl⟩
    rw [hpl, List.take_length] at iacc
    refine ⟨_, rfl, _, rfl, l, acc, rfl, .inl ⟨SqL.of hacc, fun t ht => ⟨le_size (by show 3 ≤ 100000; decide), fun q hq => ?_⟩⟩⟩
    refine k1 _ _ (sD.trans (t1.trans ((same_new ht).trans (same_new hq)))) ?_
    unfold howD
    rw [hal]
    exact im_new hq (.cons (.str _) (.cons (.str _) (.cons (im_new ht iacc) .nil)))
/- alt_rule: slots 0 first 1 second 2 ways 3 name 4 goals 5 arms 6 t 7 kind 8 goal -/
theorem sc_alt_rule : FnScope ["first", "second", "ways", "name", "goals", "arms", "t", "kind", "goal"] ["first", "second", "ways", "name"] (defScope s_alt_rule) := ⟨rfl, rfl, rfl, by decide +kernel, rfl, by decide +kernel, by decide +kernel⟩
theorem ok_alt_rule (T : Txt K mg) (c_parts_of : C8.Cal P w K mg base 2 "parts_of" spPartsOf []) (c_goes_to : C8.Cal P w K mg base 1 "goes_to" spGoes []) : C8.Cal P w K mg base 3 "alt_rule" (spRule true) [] := by
  refine mkCal (f_alt_rule T) (g_alt_rule T) sc_alt_rule (fun _ _ _ _ _ _ us hl => match us, hl with | [_, _, _, _], _ => rfl) (fun vs H Q E h => ?_) (fun vs H Q E h => ?_)
  · obtain ⟨a, b, c, d, rfl, _⟩ := sp4_len h
    rfl
  obtain ⟨a, b, c, d, rfl, h⟩ := sp4_len h
  intro cdv A outer s E hr
  have hu := hu_of hr
  obtain ⟨m, wx, ks, kd, h1, h2, rfl, hw, hkn, ok, rfl, hal, k1⟩ := h
  obtain ⟨fa, f1, f2, f3, rfl, ef, j1, j2, j3⟩ := im3 h1
  obtain ⟨sa, s1, s2, s3, rfl, es, i1, i2, i3⟩ := im3 h2
  refine ⟨_, (pss_cons (ps_set (i := 4) sc_alt_rule.nd rfl (by first | exact .inl rfl | exact .inr rfl) (pe_callTy (call_dictT rfl) rfl (z_dict T) (by decide +kernel) (pa_cons (C8.pe_c c_parts_of hr (by omega) rfl (pa_cons (pe_ix ix_tup (pv 1) pe_int (fun _ _ => rfl)) (pa_cons (pv 3) pa_nil))) pa_nil)))
        (pss_cons (ps_set (i := 5) sc_alt_rule.nd rfl (by first | exact .inl rfl | exact .inr rfl) (pe_lst pa_nil))
        (pss_cons (ps_for PassesOwn.never rfl (pi_tup (C8.pe_c c_parts_of hr (by omega) rfl (pa_cons (pe_ix ix_tup (pv 0) pe_int (fun _ _ => rfl)) (pa_cons (pv 3) pa_nil)))) (pg_tup rfl (pgs_cons (pg_name (i := 6) sc_alt_rule.nd rfl (by first | exact .inl rfl | exact .inr rfl)) (pgs_cons (pg_name (i := 7) sc_alt_rule.nd rfl (by first | exact .inl rfl | exact .inr rfl)) pgs_nil))) (pss_cons (ps_set (i := 8) sc_alt_rule.nd rfl (by first | exact .inl rfl | exact .inr rfl) (C8.pe_c c_goes_to hr (by omega) rfl (pa_cons (pv 2) (pa_cons (pv 7) pa_nil))))
        (pss_cons (ps_if (PW.pt (pw_or (pt_cmpR op_isN (pv 8) pe_non (nomark _)) (pw_or1 (pt_cmpR op_ne (pe_dget1 hu (pv 4) (pv 6) ⟨rfl, rfl, rfl, rfl⟩) (pv 8) (nomark _))))) pss_never pss_nil)
        (pss_one (ps_expr (pe_bm PySem.F.plainAttrs_list PySem.F.slot_list_append PySem.F.type_list_append mt_append (pv 5) (pa_cons (pe_tup (pa_cons (pv 6) (pa_cons (pe_tup (pa_cons pe_str (pa_cons (pv 3) (pa_cons (pv 6) (pa_cons (pe_tup (pa_cons pe_str (pa_cons pe_str pa_nil))) pa_nil))))) pa_nil))) pa_nil)))))))
        (pss_one (ps_ret (pe_callTy call_tupleP rfl (z_tuple T) (by decide +kernel) (pa_cons (pv 5) pa_nil))))))), ?_⟩
  refine ⟨_, rfl, sa, _, _, _, rfl, rfl, SqT.of es, at0, _, rfl, m.kinds, kd.name, kd, i1, rfl, ok.here, fun v iv => ?_⟩
  obtain ⟨pa, po, qs, rfl, ep, hod, hpr⟩ := pairs_im (K := K) iv
  refine ⟨pa, po, qs, _, rfl, ep, hod, hpr, fun D hD => ?_⟩
  have hkv : KvI (upd H D (.dK (mergeK [] (kd.parts.map fun p => (Sum.inr p.1, V.str p.2))))) (mergeK [] (kd.parts.map fun p => (Sum.inr p.1, V.str p.2))) (kindsE kd.parts) := kvI_parts ok.parts
  generalize mergeK [] (kd.parts.map fun p => (Sum.inr p.1, V.str p.2)) = pk at hkv ⊢
  have sD : Same H (upd H D (.dK pk)) := same_new hD
  refine ⟨le_size (by show 0 ≤ 100000; decide), fun l hl => ?_⟩
  have sl : Same (upd H D (.dK pk)) (upd (upd H D (.dK pk)) l (.lst [])) := same_new hl
  have s0 := sD.trans sl
  refine ⟨_, rfl, fa, _, _, _, rfl, rfl, SqT.of (s0 _ _ ef), at0, _, rfl, m.kinds, kd.name, kd, j1.mono (Tk.of s0), rfl, ok.here, fun v iv => ?_⟩
  obtain ⟨pa2, po2, pxs, rfl, ep2, _, ip⟩ := im_pt iv
  have hpl : pxs.length = kd.parts.length := by rw [ip.length, List.length_map]
  refine ⟨pa2, rfl, ⟨_, sqT_frz ep2⟩, for_tup (xs := pxs) (fun i σ H' => Filled (upd H D (.dK pk)) l ((kd.parts.take i).map (armD kd)) H' ∧ ∃ o6 o7 o8, σ = [some (.ref fa), some (.ref sa), some (.ref wx), some (.str kd.name), some (.ref D), some (.ref l), o6, o7, o8]) ⟨⟨sl, [], upd_same, .nil⟩, _, _, _, rfl⟩
    (fun i σ H' hi z => ?_) ?_ ?_⟩
  · exact (ip_keep sl hl ep2 z.1.1)
  · rintro i x σ H' hx ⟨⟨t1, acc, hacc, iacc⟩, o6, o7, o8, rfl⟩
    obtain ⟨pp, hp, ix⟩ := iml_map ip hx
    have tk1 : Tk (upd (upd H D (.dK pk)) l (.lst [])) H' := tk_back t1 hl
    obtain ⟨xa, x1, x2, rfl, ex, y1, y2⟩ := im2 (ix.mono tk1)
    cases im_str y1
    cases im_str y2
    have hpm := List.mem_of_getElem? hp
    obtain ⟨u, u1, u2⟩ := (hkv.mono (Tk.of t1)).has (lkE_map (g := fun p : Str × Str => p.1) (f := fun p => Da.str p.2) ok.parts hpm)
    cases im_str u2
    have hDd : H' D = some (.dK pk) := t1 _ _ upd_same
    refine ⟨xa, _, rfl, SqT.of ex, rfl, _, _, rfl, _, _, rfl, rfl, ?_⟩
    refine ⟨_, rfl, _, rfl, wx, ks, pp.2, rfl, hw.mono (sD.trans t1), rfl, hkn pp hpm, ?_⟩
    refine ⟨_, rfl, rfl, _, rfl, iteF ⟨_, rfl, D, rfl, .inl ⟨_, rd_of hDd⟩, _, rfl, _, dget_s (rd_of hDd), ?_⟩⟩
    rw [u1]
    refine ⟨_, rfl, rfl, _, rfl, ?_⟩
    show if (!decide (V.str pp.2 = V.str pp.2)) = true then _ else _
    rw [strT]
    refine iteF ?_
    refine ⟨_, rfl, .inl ⟨rfl, _, SqL.of hacc⟩, _, rfl, _, rfl, _, rfl, le_size (by show 2 ≤ 100000; decide), fun bq hbq => ⟨le_size (by show 4 ≤ 100000; decide), fun tq htq => ⟨le_size (by show 2 ≤ 100000; decide), fun aq haq => ?_⟩⟩⟩
    have sq1 : Same H' (upd H' bq (.tup [.str "box", .str "it"])) := same_new hbq
    have sq2 : Same (upd H' bq (.tup [.str "box", .str "it"])) (upd (upd H' bq (.tup [.str "box", .str "it"])) tq (.tup [.str "tag", .str kd.name, .str pp.1, .ref bq])) := same_new htq
    have sq3 : Same (upd (upd H' bq (.tup [.str "box", .str "it"])) tq (.tup [.str "tag", .str kd.name, .str pp.1, .ref bq])) (upd (upd (upd H' bq (.tup [.str "box", .str "it"])) tq (.tup [.str "tag", .str kd.name, .str pp.1, .ref bq])) aq (.tup [.str pp.1, .ref tq])) := same_new haq
    have sq := (sq1.trans sq2).trans sq3
    have hlen : acc.length ≤ 1000 := by
      rw [iacc.length, List.length_map, List.length_take]
      have := ok.few
      omega
    refine ⟨l, _, _, rfl, rfl, sq _ _ hacc, lt_size (by omega), ?_, _, _, _, rfl⟩
    rw [take_snoc hp, List.map_append]
    refine Filled.app hl (t1.trans sq) (sq _ _ hacc) (iacc.mono (Tk.of sq)) ?_
    exact im_new haq (.cons (.str _) (.cons (im_new htq (.cons (.str _) (.cons (.str _) (.cons (.str _) (.cons (im_new hbq (.cons (.str _) (.cons (.str _) .nil))) .nil))))) .nil))
  · rintro σ H' ⟨⟨t1, acc, hacc, iacc⟩, o6, o7, o8, rfl⟩
    rw [hpl, List.take_length] at iacc
    refine ⟨_, rfl, l, acc, rfl, SqL.of hacc, fun t o ht ho => ?_⟩
    refine k1 _ _ (sD.trans (t1.trans (same_new ht))) ?_
    unfold howD
    rw [hal]
    exact im_newP ht ho iacc
end
end SwK
set_option maxHeartbeats 8000000
/-! the over of a make into itself -/
namespace SwK
open PySem PySem.Spec PyProof.Rows L2
/-- kinds in their order: each knows those ahead -/
structure KsOrd (ks : List Kd) : Prop where
  ok : ∀ kd ∈ ks, KdOk ks kd
  nd : (ks.map (·.name)).Nodup
  ord : ∀ i kd, ks[i]? = some kd → ∀ p ∈ kd.parts, Knows (ks.take i) p.2
  few : ks.length ≤ 1000
/-- a hand of a make, as the overs need it -/
structure HnOk (m : Mk0) (h : Hn) : Prop where
  here : lookH m h.name = some h
  nd : (h.boxes.map (·.1)).Nodup
  few : h.boxes.length ≤ 1000
  know : ∀ b ∈ h.boxes, Knows m.kinds b.2
  rows : h.rows.length ≤ 1000
def setsD (bs : List (Str × Str)) : Da := .tup (bs.map fun b => .tup [.str b.1, boxD b.1])
def spMadeW : Sp := sp3 fun a b c H Q => ∃ m t, Im H a (Mk0.d m) ∧ Im H b (Mk0.d m) ∧ c = .ref t ∧ H t = some (.dK []) ∧ KsOrd m.kinds ∧ ∀ H' r q l, H q = none → FilledK H q (waysE m.kinds) H' → H' r = some (.tup [.ref q, .ref l]) → Q (.ref r) H'
def spBop : Sp := sp3 fun a b c H Q => ∃ m wx hd, Im H a (Mk0.d m) ∧ b = .ref wx ∧ WaysAt H wx m.kinds ∧ c = .str hd.name ∧ HnOk m hd ∧ ∀ H' q, H q = none → FilledK H q (kindsE hd.boxes) H' → Q (.ref q) H'
def spSets : Sp := sp4 fun a b c d H Q => ∃ m wx hd, Im H a (Mk0.d m) ∧ Im H b (Mk0.d m) ∧ c = .ref wx ∧ WaysAt H wx m.kinds ∧ d = .str hd.name ∧ HnOk m hd ∧ ∀ H' r, Same H H' → Im H' (.ref r) (setsD hd.boxes) → Q (.ref r) H'
def spMarks : Sp := sp2 fun a b H Q => ∃ m hd, Im H a (Mk0.d m) ∧ b = .str hd.name ∧ HnOk m hd ∧ ∀ (H' : Hp) (q : Addr) (ls : List Str), H q = none → Same H H' → H' q = some (.lst (ls.map V.str)) → ls.length ≤ hd.rows.length → (∀ l ∈ ls, ∃ c x, Rw.take l c x ∈ hd.rows) → Q (.ref q) H'
def spMarkRow : Sp := sp3 fun a b c H Q => ∃ m hd l, Im H a (Mk0.d m) ∧ b = .str hd.name ∧ HnOk m hd ∧ c = .str l ∧ (∃ c x, Rw.take l c x ∈ hd.rows) ∧ ∀ H' (k : Nat), Same H H' → Q (.int k) H'
theorem knows_take {ks : List Kd} {i : Nat} {k : Str} (h : Knows (ks.take i) k) : Knows ks k := by
  rcases h with h | h
  · exact .inl h
  · obtain ⟨kd, h1, h2⟩ := List.mem_map.mp h
    exact .inr (List.mem_map.mpr ⟨kd, List.mem_of_mem_take h1, h2⟩)
/-- a row begins with its word -/
def Rw.word : Rw → Str
  | .set _ _ => "set"
  | .send _ _ => "send"
  | .take _ _ _ => "take"
  | .tell _ => "tell"
  | .go _ => "go"
  | .ite _ _ => "if"
  | .fin => "end"
theorem rw_head {H : Hp} {v : V} {r : Rw} (h : Im H v r.d) : ∃ p xs, v = .ref p ∧ H p = some (.tup (.str r.word :: xs)) := by
  cases r
  all_goals
    obtain ⟨p, ys, rfl, e, l⟩ := im_tup h
    obtain ⟨y, zs, rfl, iy, _⟩ := iml_cons l
    cases im_str iy
    exact ⟨p, zs, rfl, e⟩
theorem rw_take {r : Rw} (h : r.word = "take") : ∃ l c x, r = .take l c x := by
  cases r with
  | take l c x => exact ⟨l, c, x, rfl⟩
  | set x e => exact absurd (show ("set" : Str) = "take" from h) (by decide +kernel)
  | send x e => exact absurd (show ("send" : Str) = "take" from h) (by decide +kernel)
  | tell e => exact absurd (show ("tell" : Str) = "take" from h) (by decide +kernel)
  | go k => exact absurd (show ("go" : Str) = "take" from h) (by decide +kernel)
  | ite e k => exact absurd (show ("if" : Str) = "take" from h) (by decide +kernel)
  | fin => exact absurd (show ("end" : Str) = "take" from h) (by decide +kernel)
theorem inV_str {x : Str} {l : List Str} (h : x ∈ l) : inV (.str x) (l.map V.str) = true := by
  unfold inV
  rw [List.any_map, List.any_eq_true]
  exact ⟨x, h, beq_self_eq_true x⟩
section
variable {P : Program} {w : World} {K : PySem.W.Frag} {mg : Str → Option Value} {base : Heap}
/- made_ways: slots 0 first 1 second 2 told 3 ways 4 lacking 5 name 6 sort 7 parts 8 how -/
theorem sc_made_ways : FnScope ["first", "second", "told", "ways", "lacking", "name", "sort", "parts", "how"] ["first", "second", "told"] (defScope s_made_ways) := ⟨rfl, rfl, rfl, by decide +kernel, rfl, by decide +kernel, by decide +kernel⟩
theorem ok_made_ways (T : Txt K mg) (c_sort_of : C8.Cal P w K mg base 2 "sort_of" spSortOf []) (c_rec_rule : C8.Cal P w K mg base 3 "rec_rule" (spRule false) []) (c_alt_rule : C8.Cal P w K mg base 3 "alt_rule" (spRule true) []) :
    C8.Cal P w K mg base 4 "made_ways" spMadeW [] := by
  refine mkCal (f_made_ways T) (g_made_ways T) sc_made_ways (fun _ _ _ _ _ _ us hl => match us, hl with | [_, _, _], _ => rfl) (fun vs H Q E h => ?_) (fun vs H Q E h => ?_)
  · obtain ⟨a, b, c, rfl, _⟩ := sp3_len h
    rfl
  obtain ⟨a, b, c, rfl, h⟩ := sp3_len h
  intro cdv A outer s E hr
  have hu := hu_of hr
  obtain ⟨m, t, h1, h2, rfl, ht, ok, k1⟩ := h
  obtain ⟨fa, f1, f2, f3, rfl, ef, j1, j2, j3⟩ := im3 h1
  obtain ⟨sa, s1, s2, s3, rfl, es, i1, i2, i3⟩ := im3 h2
  obtain ⟨ka, kxs, rfl, ek, ik⟩ := im_tup j1
  have hkl : kxs.length = m.kinds.length := by rw [ik.length, List.length_map]
  refine ⟨_, (pss_cons (ps_set (i := 3) sc_made_ways.nd rfl (by first | exact .inl rfl | exact .inr rfl) pe_dnewK)
        (pss_cons (ps_set (i := 4) sc_made_ways.nd rfl (by first | exact .inl rfl | exact .inr rfl) (pe_lst pa_nil))
        (pss_cons (ps_for PassesOwn.never rfl (pi_tup (pe_ix ix_tup (pv 0) pe_int (fun _ _ => rfl))) (pg_tup rfl (pgs_cons (pg_name (i := 5) sc_made_ways.nd rfl (by first | exact .inl rfl | exact .inr rfl)) (pgs_cons (pg_name (i := 6) sc_made_ways.nd rfl (by first | exact .inl rfl | exact .inr rfl)) (pgs_cons (pg_name (i := 7) sc_made_ways.nd rfl (by first | exact .inl rfl | exact .inr rfl)) pgs_nil)))) (pss_cons (ps_set (i := 8) sc_made_ways.nd rfl (by first | exact .inl rfl | exact .inr rfl) pe_non)
        (pss_cons (ps_if (pt_cmp (pc_din hu (pv 5) (pv 2))) pss_never (pss_one (ps_if (pt_cmpR op_eq (C8.pe_c c_sort_of hr (by omega) rfl (pa_cons (pe_ix ix_tup (pv 1) pe_int (fun _ _ => rfl)) (pa_cons (pv 5) pa_nil))) (pv 6) (nomark _)) (pss_cons (ps_if (pt_cmpR op_eq (pv 6) pe_str (nomark _)) (pss_one (ps_set (i := 8) sc_made_ways.nd rfl (by first | exact .inl rfl | exact .inr rfl) (C8.pe_c c_rec_rule hr (by omega) rfl (pa_cons (pv 0) (pa_cons (pv 1) (pa_cons (pv 3) (pa_cons (pv 5) pa_nil))))))) (pss_one (ps_set (i := 8) sc_made_ways.nd rfl (by first | exact .inl rfl | exact .inr rfl) (C8.pe_c c_alt_rule hr (by omega) rfl (pa_cons (pv 0) (pa_cons (pv 1) (pa_cons (pv 3) (pa_cons (pv 5) pa_nil))))))))
        (pss_one (ps_if (pt_cmpR op_notN (pv 8) pe_non (nomark _)) (pss_one (ps_dput hu (pv 3) (pv 5) (pe_tup (pa_cons (pv 5) (pa_cons (pv 8) pa_nil))) rfl)) pss_nil))) pss_nil)))
        (pss_one (ps_if (pt_cmp (pc_dnotin hu (pv 5) (pv 3))) pss_never pss_nil)))))
        (pss_one (ps_ret (pe_tup (pa_cons (pv 3) (pa_cons (pv 4) pa_nil)))))))), ?_⟩
  refine fun q hq => ⟨le_size (by show 0 ≤ 100000; decide), fun l hl => ?_⟩
  have sq : Same H (upd H q (.dK [])) := same_new hq
  have sl : Same (upd H q (.dK [])) (upd (upd H q (.dK [])) l (.lst [])) := same_new hl
  have s0 := sq.trans sl
  have hlq : l ≠ q := by
    rintro rfl
    rw [upd_same] at hl
    cases hl
  refine ⟨_, rfl, fa, _, _, _, rfl, rfl, SqT.of (s0 _ _ ef), at0, ka, rfl, ⟨_, SqT.of (s0 _ _ ek)⟩, for_tup (xs := kxs) (fun i σ H' => FilledK H q (waysE (m.kinds.take i)) H' ∧ ∃ o5 o6 o7 o8, σ = [some (.ref fa), some (.ref sa), some (.ref t), some (.ref q), some (.ref l), o5, o6, o7, o8]) ⟨⟨s0, [], sl _ _ upd_same, .nil⟩, _, _, _, _, rfl⟩
    (fun i σ H' hi z => SqT.of (z.1.1 _ _ ek)) ?_ ?_⟩
  · rintro i x σ H' hx ⟨⟨t1, kvs, hd, hkv⟩, o5, o6, o7, o8, rfl⟩
    obtain ⟨kd, hk, ix⟩ := iml_map ik hx
    have hkm := List.mem_of_getElem? hk
    have okd := ok.ok kd hkm
    obtain ⟨xa, x1, x2, x3, rfl, ex, y1, y2, y3⟩ := im3 (ix.mono (Tk.of t1))
    cases im_str y1
    cases im_str y2
    have hlen : kvs.length ≤ 1000 := by
      rw [hkv.length]
      unfold waysE
      rw [List.length_map, List.length_take]
      have := ok.few
      omega
    refine ⟨xa, _, rfl, SqT.of ex, rfl, _, _, rfl, _, _, rfl, _, _, rfl, rfl, ?_⟩
    refine ⟨_, rfl, _, rfl, t, _, rfl, dget_s (rd_of (t1 _ _ ht)), _, rfl, iteF ?_⟩
    refine ⟨_, rfl, sa, _, _, _, rfl, rfl, SqT.of (t1 _ _ es), at0, _, rfl, m.kinds, kd.name, i1.mono (Tk.of t1), rfl, fun kd' e => ?_, fun e => by rw [okd.here] at e; cases e⟩
    rw [okd.here] at e
    cases e
    refine ⟨_, rfl, rfl, _, rfl, ifTD ?_⟩
    have fin : ∀ (H2 : Hp) (r : Addr), Same H' H2 → Im H2 (.ref r) (howD kd) → ∀ (tq : Addr), H2 tq = none → FilledK H q (waysE (m.kinds.take (i + 1))) (upd (upd H2 tq (.tup [.str kd.name, .ref r])) q (.dK (putK kvs (Sum.inr kd.name) (.ref tq)))) := by
      intro H2 r t2 ir tq htq
      have t3 : Same H2 (upd H2 tq (.tup [.str kd.name, .ref r])) := same_new htq
      have t4 := t2.trans t3
      have z := FilledK.put hq (t1.trans t4) (t4 _ _ hd) (hkv.mono (Tk.of t4)) (x := kd.name) (d := wayD kd) (im_new htq (.cons (.str _) (.cons ir .nil)))
      rw [show putE (waysE (m.kinds.take i)) kd.name (wayD kd) = waysE (m.kinds.take (i + 1)) from putE_step (g := fun k : Kd => k.name) (f := wayD) ok.nd hk] at z
      exact z
    have hlk : ∀ {H3 : Hp} {kvs' : List (Key × V)}, KvI H3 kvs' (waysE (m.kinds.take (i + 1))) → ∃ u, valV kvs' (Sum.inr kd.name) = some u := by
      intro H3 kvs' hkv'
      have : kd ∈ m.kinds.take (i + 1) := by rw [take_snoc hk]; simp
      have hn : ((m.kinds.take (i + 1)).map (·.name)).Nodup := by
        rw [List.map_take]
        exact List.Sublist.nodup (List.take_sublist _ _) ok.nd
      obtain ⟨u, e, _⟩ := hkv'.has (lkE_map (g := fun k : Kd => k.name) (f := wayD) hn this)
      exact ⟨u, e⟩
    have wy : WaysAt H' q (m.kinds.take i) := ⟨kvs, rd_of hd, hkv⟩
    cases hal : kd.alt with
    | false =>
      refine ⟨_, rfl, rfl, _, rfl, ifTD ?_⟩
      refine ⟨_, rfl, _, rfl, _, rfl, _, rfl, m, q, m.kinds.take i, kd, h1.mono (Tk.of t1), h2.mono (Tk.of t1), rfl, wy, ok.ord i kd hk, okd, rfl, hal, fun H2 r t2 ir => ?_⟩
      refine ⟨_, rfl, rfl, _, rfl, iteT ?_⟩
      refine ⟨_, rfl, _, rfl, le_size (by show 2 ≤ 100000; decide), fun tq htq => ?_⟩
      have t3 : Same H2 (upd H2 tq (.tup [.str kd.name, .ref r])) := same_new htq
      have z := fin H2 r t2 ir tq htq
      refine ⟨_, rfl, _, rfl, q, _, rfl, DPut.k (k := Sum.inr kd.name) ((t2.trans t3) _ _ hd) (lt_size (by omega)), ?_⟩
      obtain ⟨u, hu'⟩ : ∃ u, valV (putK kvs (Sum.inr kd.name) (.ref tq)) (Sum.inr kd.name) = some u := by
        obtain ⟨_, kvs', e1, e2⟩ := z
        rw [upd_same] at e1
        cases e1
        exact hlk e2
      refine ⟨_, rfl, _, rfl, q, _, rfl, dget_s (rd_of upd_same), _, rfl, ?_⟩
      rw [hu']
      exact iteF ⟨z, _, _, _, _, rfl⟩
    | true =>
      refine ⟨_, rfl, rfl, _, rfl, ifFD (by unfold sortS; decide +kernel) ?_⟩
      refine ⟨_, rfl, _, rfl, _, rfl, _, rfl, m, q, m.kinds.take i, kd, h1.mono (Tk.of t1), h2.mono (Tk.of t1), rfl, wy, ok.ord i kd hk, okd, rfl, hal, fun H2 r t2 ir => ?_⟩
      refine ⟨_, rfl, rfl, _, rfl, iteT ?_⟩
      refine ⟨_, rfl, _, rfl, le_size (by show 2 ≤ 100000; decide), fun tq htq => ?_⟩
      have t3 : Same H2 (upd H2 tq (.tup [.str kd.name, .ref r])) := same_new htq
      have z := fin H2 r t2 ir tq htq
      refine ⟨_, rfl, _, rfl, q, _, rfl, DPut.k (k := Sum.inr kd.name) ((t2.trans t3) _ _ hd) (lt_size (by omega)), ?_⟩
      obtain ⟨u, hu'⟩ : ∃ u, valV (putK kvs (Sum.inr kd.name) (.ref tq)) (Sum.inr kd.name) = some u := by
        obtain ⟨_, kvs', e1, e2⟩ := z
        rw [upd_same] at e1
        cases e1
        exact hlk e2
      refine ⟨_, rfl, _, rfl, q, _, rfl, dget_s (rd_of upd_same), _, rfl, ?_⟩
      rw [hu']
      exact iteF ⟨z, _, _, _, _, rfl⟩
  · rintro σ H' ⟨hf, o5, o6, o7, o8, rfl⟩
    rw [hkl, List.take_length] at hf
    refine ⟨_, rfl, _, rfl, le_size (by show 2 ≤ 100000; decide), fun r hr => ?_⟩
    obtain ⟨t1, kvs, hd, hkv⟩ := hf
    have t2 : Same H' (upd H' r (.tup [.ref q, .ref l])) := same_new hr
    exact k1 _ r q l hq ⟨t1.trans t2, kvs, t2 _ _ hd, hkv.mono (Tk.of t2)⟩ upd_same
/- boxes_over_places: slots 0 first 1 ways 2 h 3 found 4 x 5 kind 6 goal -/
theorem sc_boxes_over_places : FnScope ["first", "ways", "h", "found", "x", "kind", "goal"] ["first", "ways", "h"] (defScope s_boxes_over_places) := ⟨rfl, rfl, rfl, by decide +kernel, rfl, by decide +kernel, by decide +kernel⟩
theorem ok_boxes_over_places (T : Txt K mg) (c_hand_of : C8.Cal P w K mg base 2 "hand_of" spHandOf []) (c_goes_to : C8.Cal P w K mg base 1 "goes_to" spGoes []) : C8.Cal P w K mg base 3 "boxes_over_places" spBop [] := by
  refine mkCal (f_boxes_over_places T) (g_boxes_over_places T) sc_boxes_over_places (fun _ _ _ _ _ _ us hl => match us, hl with | [_, _, _], _ => rfl) (fun vs H Q E h => ?_) (fun vs H Q E h => ?_)
  · obtain ⟨a, b, c, rfl, _⟩ := sp3_len h
    rfl
  obtain ⟨a, b, c, rfl, h⟩ := sp3_len h
  intro cdv A outer s E hr
  have hu := hu_of hr
  obtain ⟨m, wx, hd0, h1, rfl, hw, rfl, ok, k1⟩ := h
  refine ⟨_, (pss_cons (ps_set (i := 3) sc_boxes_over_places.nd rfl (by first | exact .inl rfl | exact .inr rfl) pe_dnewK)
        (pss_cons (ps_for PassesOwn.never rfl (pi_tup (pe_ix ix_tup (C8.pe_c c_hand_of hr (by omega) rfl (pa_cons (pv 0) (pa_cons (pv 2) pa_nil))) pe_int (fun _ _ => rfl))) (pg_tup rfl (pgs_cons (pg_name (i := 4) sc_boxes_over_places.nd rfl (by first | exact .inl rfl | exact .inr rfl)) (pgs_cons (pg_name (i := 5) sc_boxes_over_places.nd rfl (by first | exact .inl rfl | exact .inr rfl)) pgs_nil))) (pss_cons (ps_set (i := 6) sc_boxes_over_places.nd rfl (by first | exact .inl rfl | exact .inr rfl) (C8.pe_c c_goes_to hr (by omega) rfl (pa_cons (pv 1) (pa_cons (pv 5) pa_nil))))
        (pss_one (ps_if (pt_cmpR op_notN (pv 6) pe_non (nomark _)) (pss_one (ps_dput hu (pv 3) (pv 4) (pv 6) rfl)) pss_nil))))
        (pss_one (ps_ret (pv 3))))), ?_⟩
  intro q hq
  have sq : Same H (upd H q (.dK [])) := same_new hq
  refine ⟨_, rfl, _, rfl, m, hd0.name, hd0, h1.mono (Tk.of sq), rfl, ok.here, fun v iv => ?_⟩
  obtain ⟨ha, x1, x2, x3, rfl, eh, i1, i2, i3⟩ := im3 iv
  obtain ⟨pa, po, pxs, rfl, ep, _, ip⟩ := im_pt i2
  refine ⟨ha, _, _, _, rfl, rfl, SqT.of eh, at1, pa, rfl, ⟨_, sqT_frz ep⟩, for_tup (xs := pxs) (fun i σ H' => FilledK H q (kindsE (hd0.boxes.take i)) H' ∧ ∃ o4 o5 o6, σ = [some a, some (.ref wx), some (.str hd0.name), some (.ref q), o4, o5, o6]) ⟨⟨sq, [], upd_same, .nil⟩, _, _, _, rfl⟩
    (fun i σ H' _ z => ?_) ?_ ?_⟩
  · refine sqT_frz (o := po) (z.1.1 _ _ ?_)
    have : pa ≠ q := by
      rintro rfl
      rw [upd_same] at ep
      cases ep
    rw [upd_ne this] at ep
    exact ep
  · rintro i x σ H' hx ⟨⟨s1, kvs, hd, kv⟩, o4, o5, o6, rfl⟩
    obtain ⟨pp, hp, ix⟩ := iml_map ip hx
    have tk1 : Tk (upd H q (.dK [])) H' := fun b o e t => by
      by_cases hb : b = q
      · subst hb
        rw [upd_same] at e
        cases e
        exact t.elim
      · rw [upd_ne hb] at e
        exact s1 _ _ e
    obtain ⟨xa, x1, x2, rfl, ex, j1, j2⟩ := im2 (ix.mono tk1)
    cases im_str j1
    cases im_str j2
    have hkn := ok.know pp (List.mem_of_getElem? hp)
    refine ⟨xa, _, rfl, SqT.of ex, rfl, _, _, rfl, _, _, rfl, rfl, ?_⟩
    refine ⟨_, rfl, _, rfl, wx, m.kinds, pp.2, rfl, hw.mono s1, rfl, hkn, ?_⟩
    refine ⟨_, rfl, rfl, _, rfl, iteT ?_⟩
    have hlen : kvs.length ≤ 1000 := by
      rw [kv.length]
      show ((hd0.boxes.take i).map _).length ≤ 1000
      rw [List.length_map, List.length_take]
      have := ok.few
      omega
    refine ⟨_, rfl, _, rfl, _, rfl, q, _, rfl, DPut.k (k := Sum.inr pp.1) hd (lt_size (by omega)), ?_, _, _, _, rfl⟩
    have z := FilledK.put hq s1 hd kv (x := pp.1) (d := .str pp.2) (.str pp.2)
    rw [show putE (kindsE (hd0.boxes.take i)) pp.1 (.str pp.2) = kindsE (hd0.boxes.take (i + 1)) from putE_step (f := fun p : Str × Str => Da.str p.2) ok.nd hp] at z
    exact z
  · rintro σ H' ⟨hf, o4, o5, o6, rfl⟩
    rw [ip.length, List.length_map, List.take_length] at hf
    exact ⟨_, rfl, k1 _ _ hq hf⟩
/- sets_by_rules: slots 0 first 1 second 2 ways 3 h 4 known 5 old 6 sets 7 x 8 kind -/
theorem sc_sets_by_rules : FnScope ["first", "second", "ways", "h", "known", "old", "sets", "x", "kind"] ["first", "second", "ways", "h"] (defScope s_sets_by_rules) := ⟨rfl, rfl, rfl, by decide +kernel, rfl, by decide +kernel, by decide +kernel⟩
theorem ok_sets_by_rules (T : Txt K mg) (c_hand_of : C8.Cal P w K mg base 2 "hand_of" spHandOf []) (c_boxes_over_places : C8.Cal P w K mg base 3 "boxes_over_places" spBop []) : C8.Cal P w K mg base 4 "sets_by_rules" spSets [] := by
  refine mkCal (f_sets_by_rules T) (g_sets_by_rules T) sc_sets_by_rules (fun _ _ _ _ _ _ us hl => match us, hl with | [_, _, _, _], _ => rfl) (fun vs H Q E h => ?_) (fun vs H Q E h => ?_)
  · obtain ⟨a, b, c, d, rfl, _⟩ := sp4_len h
    rfl
  obtain ⟨a, b, c, d, rfl, h⟩ := sp4_len h
  intro cdv A outer s E hr
  have hu := hu_of hr
  obtain ⟨m, wx, hd0, h1, h2, rfl, hw, rfl, ok, k1⟩ := h
  refine ⟨_, (pss_cons (ps_set (i := 4) sc_sets_by_rules.nd rfl (by first | exact .inl rfl | exact .inr rfl) (C8.pe_c c_boxes_over_places hr (by omega) rfl (pa_cons (pv 0) (pa_cons (pv 2) (pa_cons (pv 3) pa_nil)))))
        (pss_cons (ps_setLc (i := 5) (own := [("x", 7), ("kind", 8)]) rfl sc_sets_by_rules.nd rfl rfl (sw_true rfl rfl rfl (by decide +kernel)) (pi_tup (pe_ix ix_tup (C8.pe_c c_hand_of hr (by omega) rfl (pa_cons (pv 0) (pa_cons (pv 3) pa_nil))) pe_int (fun _ _ => rfl))) (blkOk_by (N := ["first", "second", "ways", "h", "known", "old", "sets", "x", "kind"]) (sc := defScope s_sets_by_rules) (by decide +kernel)) (fun _ _ _ _ _ => (pgT (K := K) (n := 2) rfl rfl (pgs_cons (pg_name (i := 7) sc_sets_by_rules.nd rfl (by first | exact .inl rfl | exact .inr rfl)) (pgs_cons (pg_name (i := 8) sc_sets_by_rules.nd rfl (by first | exact .inl rfl | exact .inr rfl)) pgs_nil)))) (fun _ _ _ _ _ => pts_nil) (fun _ _ _ _ _ => (pv 7)))
        (pss_cons (ps_set (i := 6) sc_sets_by_rules.nd rfl (by first | exact .inl rfl | exact .inr rfl) (pe_lst pa_nil))
        (pss_cons (ps_for PassesOwn.never rfl (pi_tup (pe_ix ix_tup (C8.pe_c c_hand_of hr (by omega) rfl (pa_cons (pv 1) (pa_cons (pv 3) pa_nil))) pe_int (fun _ _ => rfl))) (pg_tup rfl (pgs_cons (pg_name (i := 7) sc_sets_by_rules.nd rfl (by first | exact .inl rfl | exact .inr rfl)) (pgs_cons (pg_name (i := 8) sc_sets_by_rules.nd rfl (by first | exact .inl rfl | exact .inr rfl)) pgs_nil))) (pss_one (ps_if (pt_cmpR op_notIn_seq (pv 7) (pv 5) (by rfl)) pss_never (pss_one (ps_if (pt_cmpR op_eq (pe_dget1 hu (pv 4) (pv 7) ⟨rfl, rfl, rfl, rfl⟩) (pv 8) (nomark _)) (pss_one (ps_expr (pe_bm PySem.F.plainAttrs_list PySem.F.slot_list_append PySem.F.type_list_append mt_append (pv 6) (pa_cons (pe_tup (pa_cons (pv 7) (pa_cons (pe_tup (pa_cons pe_str (pa_cons (pv 7) pa_nil))) pa_nil))) pa_nil)))) pss_never)))))
        (pss_one (ps_ret (pe_callTy call_tuple_of rfl (z_tuple T) (by decide +kernel) (pa_cons (pv 6) pa_nil)))))))), ?_⟩
  refine ⟨_, rfl, _, rfl, _, rfl, m, wx, hd0, h1, rfl, hw, rfl, ok, fun H1 kq hkq hf => ?_⟩
  obtain ⟨s1, pk, hkd, hkv⟩ := hf
  refine ⟨_, rfl, _, rfl, m, hd0.name, hd0, h1.mono (Tk.of s1), rfl, ok.here, fun v iv => ?_⟩
  obtain ⟨ha, x1, x2, x3, rfl, eh, i1, i2, i3⟩ := im3 iv
  obtain ⟨pa, po, pxs, rfl, ep, _, ip⟩ := im_pt i2
  have l1 : pxs.length = hd0.boxes.length := by rw [ip.length, List.length_map]
  refine ⟨ha, _, _, _, rfl, rfl, SqT.of eh, at1, pa, rfl, ⟨_, sqT_frz ep⟩, fun D hD => lc_tup (K := K) (a := pa) (xs := pxs) (fun i H' => Same H1 H' ∧ H' D = some (.lst (((hd0.boxes.take i).map (·.1)).map V.str))) ⟨same_new hD, upd_same⟩ (fun i H' _ q => sqT_frz (q.1 _ _ ep)) (fun i x H' hx q => ?_) (fun H2 q => ?_)⟩
  · obtain ⟨t1, hacc⟩ := q
    obtain ⟨p1, hp1, ix⟩ := iml_map ip hx
    obtain ⟨qa, y1, y2, rfl, eq, i1, i2⟩ := im2 (ix.mono (Tk.of t1))
    cases im_str i1
    refine ⟨qa, _, rfl, SqT.of eq, rfl, _, _, rfl, _, _, rfl, rfl, rfl, lcY (iteT ?_)⟩
    refine ⟨_, rfl, _, hacc, ?_, same_put t1 hD, ?_⟩
    · rw [List.length_map, List.length_map, List.length_take]
      exact lt_size (by have := ok.few; omega)
    · rw [upd_same, take_snoc hp1, List.map_append, List.map_append]
      rfl
  · obtain ⟨s2, hacc⟩ := q
    rw [l1, List.take_length] at hacc
    refine ⟨le_size (by show 0 ≤ 100000; decide), fun l hl => ?_⟩
    have sl : Same H2 (upd H2 l (.lst [])) := same_new hl
    have s3 := (s1.trans s2).trans sl
    refine ⟨_, rfl, _, rfl, m, hd0.name, hd0, h2.mono (Tk.of s3), rfl, ok.here, fun v iv => ?_⟩
    obtain ⟨ha2, x1, x2, x3, rfl, eh2, i1, i2, i3⟩ := im3 iv
    obtain ⟨pa2, po2, pxs2, rfl, ep2, _, ip2⟩ := im_pt i2
    have l2 : pxs2.length = hd0.boxes.length := by rw [ip2.length, List.length_map]
    refine ⟨ha2, _, _, _, rfl, rfl, SqT.of eh2, at1, pa2, rfl, ⟨_, sqT_frz ep2⟩, for_tup (xs := pxs2) (fun i σ H' => Filled H2 l ((hd0.boxes.take i).map fun b => Da.tup [.str b.1, boxD b.1]) H' ∧ ∃ o7 o8, σ = [some a, some b, some (.ref wx), some (.str hd0.name), some (.ref kq), some (.ref D), some (.ref l), o7, o8]) ⟨⟨sl, [], upd_same, .nil⟩, _, _, rfl⟩
      (fun i σ H' hi z => ip_keep sl hl ep2 z.1.1) ?_ ?_⟩
    · rintro i x σ H' hx ⟨⟨t1, acc, hacc2, iacc⟩, o7, o8, rfl⟩
      obtain ⟨pp, hp, ix⟩ := iml_map ip2 hx
      obtain ⟨xa, x1, x2, rfl, ex, y1, y2⟩ := im2 (ix.mono (tk_back t1 hl))
      cases im_str y1
      cases im_str y2
      have hpm := List.mem_of_getElem? hp
      obtain ⟨u, u1, u2⟩ := hkv.has (lkE_map (g := fun p : Str × Str => p.1) (f := fun p => Da.str p.2) ok.nd hpm)
      cases im_str u2
      have hk' : H' kq = some (.dK pk) := t1 _ _ (s2 _ _ hkd)
      refine ⟨xa, _, rfl, SqT.of ex, rfl, _, _, rfl, _, _, rfl, rfl, ?_⟩
      refine ⟨_, rfl, _, rfl, D, _, rfl, .inl (SqL.of (t1 _ _ hacc)), rfl, str_all, _, rfl, ?_⟩
      rw [inV_str (List.mem_map.mpr ⟨pp, hpm, rfl⟩)]
      refine iteF ?_
      refine ⟨_, rfl, kq, rfl, .inl ⟨_, rd_of hk'⟩, _, rfl, _, dget_s (rd_of hk'), ?_⟩
      rw [u1]
      refine ⟨_, rfl, rfl, _, rfl, ifTD ?_⟩
      refine ⟨_, rfl, .inl ⟨rfl, _, SqL.of hacc2⟩, _, rfl, _, rfl, le_size (by show 2 ≤ 100000; decide), fun bq hbq => ⟨le_size (by show 2 ≤ 100000; decide), fun aq haq => ?_⟩⟩
      have sq1 : Same H' (upd H' bq (.tup [.str "box", .str pp.1])) := same_new hbq
      have sq2 : Same (upd H' bq (.tup [.str "box", .str pp.1])) (upd (upd H' bq (.tup [.str "box", .str pp.1])) aq (.tup [.str pp.1, .ref bq])) := same_new haq
      have sq := sq1.trans sq2
      have hlen : acc.length ≤ 1000 := by
        rw [iacc.length, List.length_map, List.length_take]
        have := ok.few
        omega
      refine ⟨l, _, _, rfl, rfl, sq _ _ hacc2, lt_size (by omega), ?_, _, _, rfl⟩
      rw [take_snoc hp, List.map_append]
      exact Filled.app hl (t1.trans sq) (sq _ _ hacc2) (iacc.mono (Tk.of sq)) (im_new haq (.cons (.str _) (.cons (im_new hbq (.cons (.str _) (.cons (.str _) .nil))) .nil)))
    · rintro σ H' ⟨⟨t1, acc, hacc2, iacc⟩, o7, o8, rfl⟩
      rw [l2, List.take_length] at iacc
      refine ⟨_, rfl, l, acc, rfl, .inl ⟨SqL.of hacc2, fun t ht => ?_⟩⟩
      exact k1 _ _ (((s1.trans s2).trans t1).trans (same_new ht)) (im_new ht iacc)
/- marks_of: slots 0 make 1 h 2 row -/
theorem sc_marks_of : FnScope ["make", "h", "row"] ["make", "h"] (defScope s_marks_of) := ⟨rfl, rfl, rfl, by decide +kernel, rfl, by decide +kernel, by decide +kernel⟩
theorem ok_marks_of (T : Txt K mg) (c_hand_of : C8.Cal P w K mg base 2 "hand_of" spHandOf []) : C8.Cal P w K mg base 3 "marks_of" spMarks [] := by
  refine mkCal (f_marks_of T) (g_marks_of T) sc_marks_of (fun _ _ _ _ _ _ us hl => match us, hl with | [_, _], _ => rfl) (fun vs H Q E h => ?_) (fun vs H Q E h => ?_)
  · obtain ⟨a, b, rfl, _⟩ := sp2_len h
    rfl
  obtain ⟨a, b, rfl, h⟩ := sp2_len h
  intro cdv A outer s E hr
  have hu := hu_of hr
  obtain ⟨m, hd0, h1, rfl, ok, k1⟩ := h
  refine ⟨_, (pss_one (ps_ret (pe_lc (own := [("row", 2)]) rfl sc_marks_of.nd (pi_tup (pe_ix ix_tup (C8.pe_c c_hand_of hr (by omega) rfl (pa_cons (pv 0) (pa_cons (pv 1) pa_nil))) pe_int (fun _ _ => rfl))) (blkOk_by (N := ["make", "h", "row"]) (sc := defScope s_marks_of) (by decide +kernel)) (fun _ _ _ _ _ => (pg_name (i := 2) sc_marks_of.nd rfl (by first | exact .inl rfl | exact .inr rfl))) (fun _ _ _ _ _ => (pts_one (pt_cmpR op_eq (pe_ix (ixT (K := K) rfl) (pv 2) pe_int (fun _ _ => rfl)) pe_str (nomark _)))) (fun _ _ _ _ _ => (pe_ix (ixT (K := K) rfl) (pv 2) pe_int (fun _ _ => rfl)))))), ?_⟩
  refine ⟨_, rfl, _, rfl, m, hd0.name, hd0, h1, rfl, ok.here, fun v iv => ?_⟩
  obtain ⟨ha, x1, x2, x3, rfl, eh, i1, i2, i3⟩ := im3 iv
  obtain ⟨ra, rxs, rfl, er, ir⟩ := im_tup i3
  have l1 : rxs.length = hd0.rows.length := by rw [ir.length, List.length_map]
  refine ⟨ha, _, _, _, rfl, rfl, SqT.of eh, at2, ra, rfl, ⟨_, SqT.of er⟩, fun D hD => lc_tup (K := K) (a := ra) (xs := rxs) (fun i H' => Same H H' ∧ ∃ ls : List Str, H' D = some (.lst (ls.map V.str)) ∧ ls.length ≤ i ∧ ∀ l ∈ ls, ∃ c x, Rw.take l c x ∈ hd0.rows) ⟨same_new hD, [], upd_same, Nat.le_refl _, fun l hl => by cases hl⟩ (fun i H' _ q => SqT.of (q.1 _ _ er)) (fun i x H' hx q => ?_) (fun H2 q => ?_)⟩
  · obtain ⟨t1, ls, hacc, hll, hall⟩ := q
    obtain ⟨r, hr1, ix⟩ := iml_map ir hx
    have ix := ix.mono (Tk.of t1)
    obtain ⟨p, xs, rfl, ep⟩ := rw_head ix
    refine ⟨rfl, ?_⟩
    refine ⟨_, rfl, p, _, _, _, rfl, rfl, SqT.of ep, at0, rfl, _, rfl, ?_⟩
    have hi : i < hd0.rows.length := (List.getElem?_eq_some_iff.mp hr1).1
    by_cases hw : r.word = "take"
    · rw [hw, strT]
      refine iteT ?_
      obtain ⟨l, c, x, rfl⟩ := rw_take hw
      obtain ⟨p', y1, y2, y3, y4, z, ep', n1, n2, n3, n4⟩ := im4 ix
      cases z
      cases im_str n2
      refine ⟨_, rfl, p, _, _, _, rfl, rfl, SqT.of ep', at1, _, hacc, ?_, same_put t1 hD, ls ++ [l], ?_, ?_, ?_⟩
      · rw [List.length_map]
        exact lt_size (by have := ok.rows; omega)
      · rw [upd_same, List.map_append]
        rfl
      · rw [List.length_append]
        show ls.length + 1 ≤ i + 1
        omega
      · intro l' hl'
        rcases List.mem_append.mp hl' with h | h
        · exact hall l' h
        · have : l' = l := by simpa using h
          subst this
          exact ⟨c, x, List.mem_of_getElem? hr1⟩
    · rw [strF hw]
      exact iteF ⟨t1, ls, hacc, by omega, hall⟩
  · obtain ⟨t1, ls, hacc, hll, hall⟩ := q
    exact k1 _ _ ls hD t1 hacc (by omega) hall
/- mark_row: slots 0 make 1 h 2 l 3 k 4 row -/
theorem sc_mark_row : FnScope ["make", "h", "l", "k", "row"] ["make", "h", "l"] (defScope s_mark_row) := ⟨rfl, rfl, rfl, by decide +kernel, rfl, by decide +kernel, by decide +kernel⟩
theorem ok_mark_row (T : Txt K mg) (c_hand_of : C8.Cal P w K mg base 2 "hand_of" spHandOf []) : C8.Cal P w K mg base 3 "mark_row" spMarkRow [] := by
  refine mkCal (f_mark_row T) (g_mark_row T) sc_mark_row (fun _ _ _ _ _ _ us hl => match us, hl with | [_, _, _], _ => rfl) (fun vs H Q E h => ?_) (fun vs H Q E h => ?_)
  · obtain ⟨a, b, c, rfl, _⟩ := sp3_len h
    rfl
  obtain ⟨a, b, c, rfl, h⟩ := sp3_len h
  intro cdv A outer s E hr
  have hu := hu_of hr
  obtain ⟨m, hd0, l, h1, rfl, ok, rfl, ⟨c0, x0, hmem⟩, k1⟩ := h
  refine ⟨_, (pss_cons (ps_for PassesOwn.never rfl (pi_enumT rfl (z_enumerate T) (pa_cons (pe_ix ix_tup (C8.pe_c c_hand_of hr (by omega) rfl (pa_cons (pv 0) (pa_cons (pv 1) pa_nil))) pe_int (fun _ _ => rfl)) pa_nil)) (pg_tup rfl (pgs_cons (pg_name (i := 3) sc_mark_row.nd rfl (by first | exact .inl rfl | exact .inr rfl)) (pgs_cons (pg_name (i := 4) sc_mark_row.nd rfl (by first | exact .inl rfl | exact .inr rfl)) pgs_nil))) (pss_one (ps_if (PW.pt (pw_and (pt_cmpR op_eq (pe_ix ix_tup (pv 4) pe_int (fun _ _ => rfl)) pe_str (nomark _)) (pw_and1 (pt_cmpR op_eq (pe_ix ix_tup (pv 4) pe_int (fun _ _ => rfl)) (pv 2) (nomark _))))) (pss_one (ps_ret (pv 3))) pss_nil)))
        (pss_one (ps_ret pe_non))), ?_⟩
  refine ⟨_, rfl, _, rfl, m, hd0.name, hd0, h1, rfl, ok.here, fun v iv => ?_⟩
  obtain ⟨ha, x1, x2, x3, rfl, eh, i1, i2, i3⟩ := im3 iv
  obtain ⟨ra, rxs, rfl, er, ir⟩ := im_tup i3
  have l1 : rxs.length = hd0.rows.length := by rw [ir.length, List.length_map]
  obtain ⟨j, hj⟩ := List.getElem?_of_mem hmem
  refine ⟨ha, _, _, _, rfl, rfl, SqT.of eh, at2, ra, rxs, rfl, SqT.of er, L2.for_it walk_enumT (fun i σ H' => Same H H' ∧ i ≤ j ∧ ∃ o3 o4, σ = [some a, some (.str hd0.name), some (.str l), o3, o4]) ⟨Same.refl _, Nat.zero_le _, _, _, rfl⟩ (fun i σ H' _ z => SqT.of (z.1 _ _ er)) ?_ ?_⟩
  · rintro i x σ H1 H' hi ⟨s1, hij, o3, o4, rfl⟩ ⟨tq, y1, y2, rfl, htq, rfl, e1, e2⟩
    cases e1
    have s2 : Same H (upd H1 tq (.tup [.int (i : Nat), y2])) := s1.trans (same_new htq)
    obtain ⟨r, hr1, ix⟩ := iml_map ir e2
    have ix := ix.mono (Tk.of s2)
    obtain ⟨p, xs, rfl, ep⟩ := rw_head ix
    refine ⟨tq, _, rfl, SqT.of upd_same, rfl, _, _, rfl, _, _, rfl, rfl, ?_⟩
    refine ⟨_, rfl, p, _, _, _, rfl, rfl, SqT.of ep, at0, rfl, _, rfl, ?_⟩
    by_cases hw : r.word = "take"
    · rw [hw, strT]
      refine iteT ?_
      obtain ⟨l', c, x, rfl⟩ := rw_take hw
      obtain ⟨p', z1, z2, z3, z4, z, ep', n1, n2, n3, n4⟩ := im4 ix
      cases z
      cases im_str n2
      refine ⟨_, rfl, p, _, _, _, rfl, rfl, SqT.of ep', at1, _, rfl, rfl, _, rfl, ?_⟩
      by_cases hl : l' = l
      · subst hl
        rw [strT]
        exact iteT ⟨_, rfl, k1 _ i s2⟩
      · rw [strF hl]
        refine iteF ⟨s2, ?_, _, _, rfl⟩
        rcases Nat.lt_or_ge i j with q | q
        · omega
        · have : i = j := by omega
          subst this
          rw [hr1] at hj
          cases hj
          exact absurd rfl hl
    · rw [strF hw]
      refine iteF (iteF ⟨s2, ?_, _, _, rfl⟩)
      rcases Nat.lt_or_ge i j with q | q
      · omega
      · have : i = j := by omega
        subst this
        rw [hr1] at hj
        cases hj
        exact absurd rfl hw
  · rintro σ H' ⟨s1, hij, _⟩
    have := (List.getElem?_eq_some_iff.mp hj).1
    omega
end
end SwK
set_option maxHeartbeats 8000000
/-! the over of a make into itself, made -/
namespace SwK
open PySem PySem.Spec PyProof.Rows L2
/-! ### an empty dict, told as one by texts, is one by tuples -/
section
variable {X : Cx} {pins : List (Addr × Obj)} {σ : L2.St} {H : Hp} {s : Shared}
theorem retag_inv {d : Addr} (I : Inv X pins σ H s) (h : H d = some (.dK [])) : Inv X pins σ (upd H d (.dT [])) s := by
  have x := I.hok d _ h
  obtain ⟨z, y, vs, r, o, es, ep, e, e1, e2, _, e3, e4⟩ := x
  have ev : vs = [] := by
    cases r
    rfl
  subst ev
  have e5 : es.toList = [] := by
    generalize es.toList = zs at e3
    cases e3
    rfl
  have new : ObjOk X.prog X.w (upd H d (.dT [])) s.heap d (.dT []) := ⟨Nat.zero_le _, y, [], .nil, o, es, ep, e, e1, e2, e5, List.nodup_nil⟩
  exact I.write (x := d) (e := d) (t' := s.toks) (h' := s.heap) (by rw [h]; trivial) (.inl rfl) (fun b v _ q => q) ⟨o, e⟩ new
def tRetag (t : TS) : TS := fun D σ H => ∃ d, H d = some (.dK []) ∧ t D σ (upd H d (.dT []))
theorem ps_retag {st : Stmt} {t : TS} (h : PS X st t) : PS X st (tRetag t) :=
  ⟨fun pins s σ H D I ⟨_, hd, hw⟩ => h.run pins s σ _ _ (retag_inv I hd) hw⟩
end
/-! ### data of small depth, laid twice, is equal -/
def DpL : Nat → Da → Prop
  | 0, _ => False
  | _ + 1, .int _ => True
  | _ + 1, .str _ => True
  | n + 1, .tup l => ∀ d ∈ l, DpL n d
  | n + 1, .pt l => ∀ d ∈ l, DpL n d
theorem paired_im {H : Hp} {E : V → V → Prop} : ∀ {l : List Da} {xs ys : List V}, (∀ d ∈ l, ∀ u v, Im H u d → Im H v d → E u v) → ImL H xs l → ImL H ys l → Paired E xs ys
  | [], xs, ys, _, a, b => by
    cases iml_nil a
    cases iml_nil b
    exact .nil
  | d :: l, xs, ys, h, a, b => by
    obtain ⟨x, xr, rfl, ix, ir⟩ := iml_cons a
    obtain ⟨y, yr, rfl, iy, jr⟩ := iml_cons b
    exact .cons (h d List.mem_cons_self _ _ ix iy) (paired_im (fun e he => h e (List.mem_cons_of_mem _ he)) ir jr)
theorem im_eqX {K : PySem.W.Frag} {H : Hp} : ∀ {n : Nat} {d : Da} {u v : V}, DpL n d → Im H u d → Im H v d → EqX K H n u v
  | 0, _, _, _, h, _, _ => h.elim
  | n + 1, .int i, u, v, _, a, b => by
    cases im_int a
    cases im_int b
    exact .inl ⟨rfl, rfl⟩
  | n + 1, .str i, u, v, _, a, b => by
    cases im_str a
    cases im_str b
    exact .inl ⟨rfl, rfl⟩
  | n + 1, .tup l, u, v, h, a, b => by
    obtain ⟨p, xs, rfl, ep, il⟩ := im_tup a
    obtain ⟨q, ys, rfl, eq, jl⟩ := im_tup b
    exact .inr (.inr (.inl ⟨p, q, xs, ys, rfl, rfl, SqT.of ep, SqT.of eq, paired_im (fun d hd u v i j => im_eqX ((show ∀ d ∈ l, DpL n d from h) d hd) i j) il jl⟩))
  | n + 1, .pt l, u, v, h, a, b => by
    obtain ⟨p, po, xs, rfl, ep, _, il⟩ := im_pt a
    obtain ⟨q, qo, ys, rfl, eq, _, jl⟩ := im_pt b
    exact .inr (.inr (.inl ⟨p, q, xs, ys, rfl, rfl, sqT_frz ep, sqT_frz eq, paired_im (fun d hd u v i j => im_eqX ((show ∀ d ∈ l, DpL n d from h) d hd) i j) il jl⟩))
theorem iml_eqX {K : PySem.W.Frag} {H : Hp} {n : Nat} {l : List Da} {xs ys : List V} (h : ∀ d ∈ l, DpL n d) (a : ImL H xs l) (b : ImL H ys l) : Paired (EqX K H n) xs ys :=
  paired_im (fun d hd _ _ i j => im_eqX (h d hd) i j) a b
/-! ### places -/
theorem mem_putK {κ : Type} [DecidableEq κ] {kvs : List (κ × V)} {k k0 : κ} {v v0 : V} (h : (k, v) ∈ putK kvs k0 v0) : (k, v) ∈ kvs ∨ (k = k0 ∧ v = v0) := by
  unfold putK at h
  split at h
  · obtain ⟨p, hp, e⟩ := List.mem_map.mp h
    split at e
    · rename_i q
      injection e with e1 e2
      exact .inr ⟨e1.symm.trans q, e2.symm⟩
    · rw [e] at hp
      exact .inl hp
  · rcases List.mem_append.mp h with h | h
    · exact .inl h
    · have := List.mem_singleton.mp h
      injection this with e1 e2
      exact .inr ⟨e1, e2⟩
theorem putK_len {κ : Type} [DecidableEq κ] (kvs : List (κ × V)) (k : κ) (v : V) : (putK kvs k v).length ≤ kvs.length + 1 := by
  unfold putK
  split
  · rw [List.length_map]
    omega
  · rw [List.length_append]
    exact Nat.le_refl _
def PlI (H : Hp) (m : Mk0) (kvs : List (List Key × V)) : Prop := ∀ k v, (k, v) ∈ kvs → ∃ hd l, k = [Sum.inr hd.name, Sum.inr l] ∧ HnOk m hd ∧ (∃ c x, Rw.take l c x ∈ hd.rows) ∧ Im H v (.tup [.str l, setsD hd.boxes])
theorem PlI.mono {H H' : Hp} {m : Mk0} {kvs : List (List Key × V)} (k : Tk H H') (h : PlI H m kvs) : PlI H' m kvs := fun a v e => by
  obtain ⟨hd, l, h1, h2, h3, h4⟩ := h a v e
  exact ⟨hd, l, h1, h2, h3, h4.mono k⟩
/-- a make, as the overs need it -/
structure MkOv (m : Mk0) : Prop where
  kinds : KsOrd m.kinds
  hands : ∀ hd ∈ m.hands, HnOk m hd
  few : m.hands.length ≤ 10
  chans : m.chans.length ≤ 1000
  know : ∀ c ∈ m.chans, Knows m.kinds c.kind
def spMadeP : Sp := sp4 fun a b c d H Q => ∃ m wx t, Im H a (Mk0.d m) ∧ Im H b (Mk0.d m) ∧ c = .ref wx ∧ WaysAt H wx m.kinds ∧ d = .ref t ∧ H t = some (.dT []) ∧ MkOv m ∧
  ∀ H' r q l kvs, Same H H' → H q = none → H' q = some (.dT kvs) → PlI H' m kvs → H' r = some (.tup [.ref q, .ref l]) → Q (.ref r) H'
def spFit : Sp := sp3 fun a b c H Q => ∃ m wx, Im H a (Mk0.d m) ∧ Im H b (Mk0.d m) ∧ c = .ref wx ∧ WaysAt H wx m.kinds ∧ MkOv m ∧ ∀ H', Same H H' → Q .non H'
/-- an over of m into itself -/
structure OverAt (K : PySem.W.Frag) (H : Hp) (x wx px : Addr) (f s : V) (m : Mk0) : Prop where
  obj : ∃ dx lk, H x = some (.ins (C_Over K) dx (A_Over f s (.ref wx) (.ref px) lk))
  first : Im H f (Mk0.d m)
  second : Im H s (Mk0.d m)
  ways : ∃ kvs, H wx = some (.dK kvs) ∧ KvI H kvs (waysE m.kinds)
  places : ∃ kvs, H px = some (.dT kvs) ∧ PlI H m kvs
def spOver (K : PySem.W.Frag) : Sp := sp5 fun a b c d e H Q => ∃ m x dx tw tp, a = .ref x ∧ H x = some (.ins (C_Over K) dx []) ∧ Im H b (Mk0.d m) ∧ Im H c (Mk0.d m) ∧ d = .ref tw ∧ H tw = some (.dK []) ∧ e = .ref tp ∧ H tp = some (.dK []) ∧ MkOv m ∧
  ∀ H' wx px, Bt (fun a => a = x ∨ a = tp) H H' → H wx = none → H px = none → OverAt K H' x wx px b c m → Q .non H'
section
variable {P : Program} {w : World} {K : PySem.W.Frag} {mg : Str → Option Value} {base : Heap}
/- made_places: slots 0 first 1 second 2 ways 3 told 4 places 5 lacking 6 hand 7 h 8 sets 9 l -/
theorem sc_made_places : FnScope ["first", "second", "ways", "told", "places", "lacking", "hand", "h", "sets", "l"] ["first", "second", "ways", "told"] (defScope s_made_places) := ⟨rfl, rfl, rfl, by decide +kernel, rfl, by decide +kernel, by decide +kernel⟩
theorem ok_made_places (T : Txt K mg) (c_sets_by_rules : C8.Cal P w K mg base 4 "sets_by_rules" spSets []) (c_marks_of : C8.Cal P w K mg base 3 "marks_of" spMarks []) (c_mark_row : C8.Cal P w K mg base 3 "mark_row" spMarkRow []) :
    C8.Cal P w K mg base 5 "made_places" spMadeP [] := by
  refine mkCal (f_made_places T) (g_made_places T) sc_made_places (fun _ _ _ _ _ _ us hl => match us, hl with | [_, _, _, _], _ => rfl) (fun vs H Q E h => ?_) (fun vs H Q E h => ?_)
  · obtain ⟨a, b, c, d, rfl, _⟩ := sp4_len h
    rfl
  obtain ⟨a, b, c, d, rfl, h⟩ := sp4_len h
  intro cdv A outer s E hr
  have hu := hu_of hr
  obtain ⟨m, wx, t, h1, h2, rfl, hw, rfl, ht, ok, k1⟩ := h
  obtain ⟨fa, f1, f2, f3, rfl, ef, j1, j2, j3⟩ := im3 h1
  obtain ⟨ha, hxs, rfl, eh, ih⟩ := im_tup j3
  have hhl : hxs.length = m.hands.length := by rw [ih.length, List.length_map]
  refine ⟨_, (pss_cons (ps_set (i := 4) sc_made_places.nd rfl (by first | exact .inl rfl | exact .inr rfl) pe_dnewT)
        (pss_cons (ps_set (i := 5) sc_made_places.nd rfl (by first | exact .inl rfl | exact .inr rfl) (pe_lst pa_nil))
        (pss_cons (ps_for PassesOwn.never rfl (pi_tup (pe_ix ix_tup (pv 0) pe_int (fun _ _ => rfl))) (pg_name (i := 6) sc_made_places.nd rfl (by first | exact .inl rfl | exact .inr rfl)) (pss_cons (ps_set (i := 7) sc_made_places.nd rfl (by first | exact .inl rfl | exact .inr rfl) (pe_ix ix_tup (pv 6) pe_int (fun _ _ => rfl)))
        (pss_cons (ps_set (i := 8) sc_made_places.nd rfl (by first | exact .inl rfl | exact .inr rfl) (C8.pe_c c_sets_by_rules hr (by omega) rfl (pa_cons (pv 0) (pa_cons (pv 1) (pa_cons (pv 2) (pa_cons (pv 7) pa_nil))))))
        (pss_one (ps_for PassesOwn.never rfl (pi_list (C8.pe_c c_marks_of hr (by omega) rfl (pa_cons (pv 0) (pa_cons (pv 7) pa_nil)))) (pg_name (i := 9) sc_made_places.nd rfl (by first | exact .inl rfl | exact .inr rfl)) (pss_one (ps_if (pt_cmp (pc_din hu (pe_tup (pa_cons (pv 7) (pa_cons (pv 9) pa_nil))) (pv 3))) pss_never (pss_one (ps_if (PW.pt (pw_and (pt_cmpR op_notN (pv 8) pe_non (nomark _)) (pw_and1 (pt_cmpR op_notN (C8.pe_c c_mark_row hr (by omega) rfl (pa_cons (pv 1) (pa_cons (pv 7) (pa_cons (pv 9) pa_nil)))) pe_non (nomark _))))) (pss_one (ps_dput hu (pv 4) (pe_tup (pa_cons (pv 7) (pa_cons (pv 9) pa_nil))) (pe_tup (pa_cons (pv 9) (pa_cons (pv 8) pa_nil))) rfl)) pss_never)))))))))
        (pss_one (ps_ret (pe_tup (pa_cons (pv 4) (pa_cons (pv 5) pa_nil)))))))), ?_⟩
  refine fun q hq => ⟨le_size (by show 0 ≤ 100000; decide), fun l hl => ?_⟩
  have sq : Same H (upd H q (.dT [])) := same_new hq
  have sl : Same (upd H q (.dT [])) (upd (upd H q (.dT [])) l (.lst [])) := same_new hl
  have s0 := sq.trans sl
  refine ⟨_, rfl, fa, _, _, _, rfl, rfl, SqT.of (s0 _ _ ef), at2, ha, rfl, ⟨_, SqT.of (s0 _ _ eh)⟩, for_tup (xs := hxs) (fun i σ H' => Same H H' ∧ (∃ kvs, H' q = some (.dT kvs) ∧ PlI H' m kvs ∧ kvs.length ≤ i * 1000) ∧ ∃ o6 o7 o8 o9, σ = [some (.ref fa), some b, some (.ref wx), some (.ref t), some (.ref q), some (.ref l), o6, o7, o8, o9])
    ⟨s0, ⟨[], sl _ _ upd_same, (fun k v e => by cases e), Nat.zero_le _⟩, _, _, _, _, rfl⟩ (fun i σ H' hi z => SqT.of (z.1 _ _ eh)) ?_ ?_⟩
  · rintro i x σ H' hx ⟨t1, ⟨kvs, hd, hpl, hkl⟩, o6, o7, o8, o9, rfl⟩
    obtain ⟨hn, hk, ix⟩ := iml_map ih hx
    have okh := ok.hands hn (List.mem_of_getElem? hk)
    have hi10 : i < 10 := by
      have := (List.getElem?_eq_some_iff.mp hk).1
      have := ok.few
      omega
    obtain ⟨xa, x1, x2, x3, rfl, ex, y1, y2, y3⟩ := im3 (ix.mono (Tk.of t1))
    cases im_str y1
    refine ⟨_, rfl, xa, _, _, _, rfl, rfl, SqT.of ex, at0, ?_⟩
    refine ⟨_, rfl, _, rfl, _, rfl, _, rfl, m, wx, hn, h1.mono (Tk.of t1), h2.mono (Tk.of t1), rfl, hw.mono t1, rfl, okh, fun H2 sr t2 ir => ?_⟩
    refine ⟨_, rfl, _, rfl, m, hn, h1.mono (Tk.of (t1.trans t2)), rfl, okh, fun H3 la ls hla t3 els hll hall => ?_⟩
    have t13 := (t1.trans t2).trans t3
    have hq3 : H3 q = some (.dT kvs) := t3 _ _ (t2 _ _ hd)
    have hlq : la ≠ q := by
      rintro rfl
      rw [t2 _ _ hd] at hla
      cases hla
    refine ⟨la, rfl, ⟨_, SqL.of els⟩, for_list (xs := ls.map V.str) (fun j σ H' => Same H H' ∧ H' la = some (.lst (ls.map V.str)) ∧ Im H' (.ref sr) (setsD hn.boxes) ∧ (∃ kvs, H' q = some (.dT kvs) ∧ PlI H' m kvs ∧ kvs.length ≤ i * 1000 + j) ∧
        ∃ o9, σ = [some (.ref fa), some b, some (.ref wx), some (.ref t), some (.ref q), some (.ref l), some (.ref xa), some (.str hn.name), some (.ref sr), o9])
      ⟨t13, els, ir.mono (Tk.of t3), ⟨kvs, hq3, hpl.mono (Tk.of (t2.trans t3)), by omega⟩, _, rfl⟩ (fun j σ H' _ z => SqL.of z.2.1) ?_ ?_⟩
    · rintro j y σ H4 hy ⟨u1, u2, u3, ⟨kvs4, u4, u5, u6⟩, o9, rfl⟩
      rw [List.getElem?_map] at hy
      cases hls : ls[j]? with
      | none => rw [hls] at hy; cases hy
      | some l0 =>
        rw [hls] at hy
        cases hy
        have hj : j < ls.length := (List.getElem?_eq_some_iff.mp hls).1
        have htake := hall l0 (List.mem_of_getElem? hls)
        refine ⟨_, rfl, _, rfl, le_size (by show 2 ≤ 100000; decide), fun tq htq => ?_⟩
        have v1 : Same H4 (upd H4 tq (.tup [.str hn.name, .str l0])) := same_new htq
        refine ⟨_, rfl, t, _, rfl, DGet.t (k := [Sum.inr hn.name, Sum.inr l0]) ((u1.trans v1) _ _ ht) upd_same, _, rfl, iteF ?_⟩
        refine ⟨_, rfl, rfl, _, rfl, iteT ?_⟩
        refine ⟨_, rfl, _, rfl, _, rfl, m, hn, l0, h2.mono (Tk.of (u1.trans v1)), rfl, okh, rfl, htake, fun H5 k v2 => ?_⟩
        refine ⟨rfl, _, rfl, iteT ?_⟩
        have v3 := v1.trans v2
        refine ⟨_, rfl, _, rfl, le_size (by show 2 ≤ 100000; decide), fun vq hvq => ⟨_, rfl, _, rfl, _, rfl, le_size (by show 2 ≤ 100000; decide), fun kq hkq => ?_⟩⟩
        have v4 : Same H5 (upd H5 vq (.tup [.str l0, .ref sr])) := same_new hvq
        have v5 : Same (upd H5 vq (.tup [.str l0, .ref sr])) (upd (upd H5 vq (.tup [.str l0, .ref sr])) kq (.tup [.str hn.name, .str l0])) := same_new hkq
        have v6 := (v3.trans v4).trans v5
        have hq6 := v6 _ _ u4
        refine ⟨q, _, rfl, DPut.t (k := [Sum.inr hn.name, Sum.inr l0]) hq6 upd_same (lt_size (by have := okh.rows; omega)), ?_⟩
        have tkq := tk_put (o := .dT (putK kvs4 [Sum.inr hn.name, Sum.inr l0] (.ref vq))) hq6 (fun h => h)
        refine ⟨same_put (u1.trans v6) hq, ?_, (u3.mono (Tk.of v6)).mono tkq, ⟨_, upd_same, ?_, ?_⟩, _, rfl⟩
        · rw [upd_ne hlq]
          exact v6 _ _ u2
        · intro k' v' e
          rcases mem_putK e with e | ⟨rfl, rfl⟩
          · obtain ⟨hd', l', w1, w2, w3, w4⟩ := u5 k' v' e
            exact ⟨hd', l', w1, w2, w3, (w4.mono (Tk.of v6)).mono tkq⟩
          · refine ⟨hn, l0, rfl, okh, htake, Im.mono tkq ?_⟩
            exact Im.mono (Tk.of v5) (im_new hvq (.cons (.str _) (.cons (u3.mono (Tk.of v3)) .nil)))
        · have := putK_len kvs4 [Sum.inr hn.name, Sum.inr l0] (.ref vq)
          omega
    · rintro σ H4 ⟨u1, u2, u3, ⟨kvs4, u4, u5, u6⟩, o9, rfl⟩
      rw [List.length_map] at u6
      refine ⟨u1, ⟨kvs4, u4, u5, ?_⟩, _, _, _, _, rfl⟩
      have := okh.rows
      have e : (i + 1) * 1000 = i * 1000 + 1000 := by omega
      omega
  · rintro σ H' ⟨t1, ⟨kvs, hd, hpl, hkl⟩, o6, o7, o8, o9, rfl⟩
    refine ⟨_, rfl, _, rfl, le_size (by show 2 ≤ 100000; decide), fun r hr => ?_⟩
    have t2 : Same H' (upd H' r (.tup [.ref q, .ref l])) := same_new hr
    exact k1 _ r q l kvs (t1.trans t2) hq (t2 _ _ hd) (hpl.mono (Tk.of t2)) upd_same
end
end SwK
set_option maxHeartbeats 8000000
/-! the over of a make into itself, made -/
namespace SwK
open PySem PySem.Spec PyProof.Rows L2
def ch3 (c : Ch) : Da := .tup [.str c.name, .str c.src, .str c.dst]
theorem mem_same {H0 H H' : Hp} {D : Addr} {acc : List V} {ds : List Da} {u : V} {d : Da} (ha : H D = some (.lst acc)) (ia : ImL H acc ds) (iu : Im H u d) : ImL (upd H D (.lst (acc ++ [u]))) (acc ++ [u]) (ds ++ [d]) :=
  (ia.append (ImL.one iu)).mono (tk_put ha ntL)
section
variable {P : Program} {w : World} {K : PySem.W.Frag} {mg : Str → Option Value} {base : Heap}
/- need_fit: slots 0 first 1 second 2 ways 3 one 4 other 5 hand 6 channel -/
theorem sc_need_fit : FnScope ["first", "second", "ways", "one", "other", "hand", "channel"] ["first", "second", "ways"] (defScope s_need_fit) := ⟨rfl, rfl, rfl, by decide +kernel, rfl, by decide +kernel, by decide +kernel⟩
theorem ok_need_fit (T : Txt K mg) (c_goes_to : C8.Cal P w K mg base 1 "goes_to" spGoes []) : C8.Cal P w K mg base 2 "need_fit" spFit [] := by
  refine mkCal (f_need_fit T) (g_need_fit T) sc_need_fit (fun _ _ _ _ _ _ us hl => match us, hl with | [_, _, _], _ => rfl) (fun vs H Q E h => ?_) (fun vs H Q E h => ?_)
  · obtain ⟨a, b, c, rfl, _⟩ := sp3_len h
    rfl
  obtain ⟨a, b, c, rfl, h⟩ := sp3_len h
  intro cdv A outer s E hr
  have hu := hu_of hr
  obtain ⟨m, wx, h1, h2, rfl, hw, ok, k1⟩ := h
  obtain ⟨fa, f1, f2, f3, rfl, ef, j1, j2, j3⟩ := im3 h1
  obtain ⟨sa, s1, s2, s3, rfl, es, i1, i2, i3⟩ := im3 h2
  obtain ⟨ha, hxs, rfl, eh, ih⟩ := im_tup j3
  obtain ⟨ga, gxs, rfl, eg, ig⟩ := im_tup i3
  obtain ⟨ca, cxs, rfl, ec, ic⟩ := im_tup j2
  obtain ⟨da, dxs, rfl, ed, id'⟩ := im_tup i2
  have lh : hxs.length = m.hands.length := by rw [ih.length, List.length_map]
  have lg : gxs.length = m.hands.length := by rw [ig.length, List.length_map]
  have lc : cxs.length = m.chans.length := by rw [ic.length, List.length_map]
  have ld : dxs.length = m.chans.length := by rw [id'.length, List.length_map]
  refine ⟨_, (pss_cons (ps_if (pt_cmpR (op_neX hr.units) (pe_lc (own := [("hand", 5)]) rfl sc_need_fit.nd (pi_tup (pe_ix ix_tup (pv 0) pe_int (fun _ _ => rfl))) (blkOk_by (N := ["first", "second", "ways", "one", "other", "hand", "channel"]) (sc := defScope s_need_fit) (by decide +kernel)) (fun _ _ _ _ _ => (pg_name (i := 5) sc_need_fit.nd rfl (by first | exact .inl rfl | exact .inr rfl))) (fun _ _ _ _ _ => pts_nil) (fun _ _ _ _ _ => (pe_ix (ixT (K := K) rfl) (pv 5) pe_int (fun _ _ => rfl)))) (pe_lc (own := [("hand", 5)]) rfl sc_need_fit.nd (pi_tup (pe_ix ix_tup (pv 1) pe_int (fun _ _ => rfl))) (blkOk_by (N := ["first", "second", "ways", "one", "other", "hand", "channel"]) (sc := defScope s_need_fit) (by decide +kernel)) (fun _ _ _ _ _ => (pg_name (i := 5) sc_need_fit.nd rfl (by first | exact .inl rfl | exact .inr rfl))) (fun _ _ _ _ _ => pts_nil) (fun _ _ _ _ _ => (pe_ix (ixT (K := K) rfl) (pv 5) pe_int (fun _ _ => rfl)))) (nomark _)) (pss_one ps_never) pss_nil)
        (pss_cons (ps_if (pt_cmpR (op_neX hr.units) (pe_lc (own := [("channel", 6)]) rfl sc_need_fit.nd (pi_tup (pe_ix ix_tup (pv 0) pe_int (fun _ _ => rfl))) (blkOk_by (N := ["first", "second", "ways", "one", "other", "hand", "channel"]) (sc := defScope s_need_fit) (by decide +kernel)) (fun _ _ _ _ _ => (pg_name (i := 6) sc_need_fit.nd rfl (by first | exact .inl rfl | exact .inr rfl))) (fun _ _ _ _ _ => pts_nil) (fun _ _ _ _ _ => (pe_slice (slT (K := K) rfl) (pv 6) po_none (po_some pe_int)))) (pe_lc (own := [("channel", 6)]) rfl sc_need_fit.nd (pi_tup (pe_ix ix_tup (pv 1) pe_int (fun _ _ => rfl))) (blkOk_by (N := ["first", "second", "ways", "one", "other", "hand", "channel"]) (sc := defScope s_need_fit) (by decide +kernel)) (fun _ _ _ _ _ => (pg_name (i := 6) sc_need_fit.nd rfl (by first | exact .inl rfl | exact .inr rfl))) (fun _ _ _ _ _ => pts_nil) (fun _ _ _ _ _ => (pe_slice (slT (K := K) rfl) (pv 6) po_none (po_some pe_int)))) (nomark _)) (pss_one ps_never) pss_nil)
        (pss_one (ps_for PassesOwn.never rfl (RZ.pi_zipA rfl (z_zip T) (pa_cons (pe_ix ix_tup (pv 0) pe_int (fun _ _ => rfl)) (pa_cons (pe_ix ix_tup (pv 1) pe_int (fun _ _ => rfl)) pa_nil))) (pg_tup rfl (pgs_cons (pg_name (i := 3) sc_need_fit.nd rfl (by first | exact .inl rfl | exact .inr rfl)) (pgs_cons (pg_name (i := 4) sc_need_fit.nd rfl (by first | exact .inl rfl | exact .inr rfl)) pgs_nil))) (pss_one (ps_if (pt_cmpR op_ne (C8.pe_c c_goes_to hr (by omega) rfl (pa_cons (pv 2) (pa_cons (pe_ix ix_tup (pv 3) pe_int (fun _ _ => rfl)) pa_nil))) (pe_ix ix_tup (pv 4) pe_int (fun _ _ => rfl)) (nomark _)) (pss_one ps_never) pss_nil)))))), ?_⟩
  refine ⟨_, rfl, fa, _, _, _, rfl, rfl, SqT.of ef, at2, ha, rfl, ⟨_, SqT.of eh⟩, fun D hD => lc_tup (K := K) (a := ha) (xs := hxs) (fun i H' => Same H H' ∧ H' D = some (.lst (((m.hands.take i).map Hn.name).map V.str))) ⟨same_new hD, upd_same⟩ (fun i H' _ q => SqT.of (q.1 _ _ eh)) (fun i x H' hx q => ?_) (fun H1 q => ?_)⟩
  · obtain ⟨t1, hacc⟩ := q
    obtain ⟨p1, hp1, ix⟩ := iml_map ih hx
    obtain ⟨qa, y1, y2, y3, rfl, eq, n1, n2, n3⟩ := im3 (ix.mono (Tk.of t1))
    cases im_str n1
    refine ⟨rfl, lcY (iteT ?_)⟩
    refine ⟨_, rfl, qa, _, _, _, rfl, rfl, SqT.of eq, at0, _, hacc, ?_, same_put t1 hD, ?_⟩
    · rw [List.length_map, List.length_map, List.length_take]
      exact lt_size (by have := ok.few; omega)
    · rw [upd_same, take_snoc hp1, List.map_append, List.map_append]
      rfl
  obtain ⟨t1, hacc⟩ := q
  rw [lh, List.take_length] at hacc
  refine ⟨_, rfl, sa, _, _, _, rfl, rfl, SqT.of (t1 _ _ es), at2, ga, rfl, ⟨_, SqT.of (t1 _ _ eg)⟩, fun D2 hD2 => lc_tup (K := K) (a := ga) (xs := gxs) (fun i H' => Same H1 H' ∧ H' D2 = some (.lst (((m.hands.take i).map Hn.name).map V.str))) ⟨same_new hD2, upd_same⟩ (fun i H' _ q => SqT.of (q.1 _ _ (t1 _ _ eg))) (fun i x H' hx q => ?_) (fun H2 q => ?_)⟩
  · obtain ⟨t2, hacc2⟩ := q
    obtain ⟨p1, hp1, ix⟩ := iml_map ig hx
    obtain ⟨qa, y1, y2, y3, rfl, eq, n1, n2, n3⟩ := im3 (ix.mono (Tk.of (t1.trans t2)))
    cases im_str n1
    refine ⟨rfl, lcY (iteT ?_)⟩
    refine ⟨_, rfl, qa, _, _, _, rfl, rfl, SqT.of eq, at0, _, hacc2, ?_, same_put t2 hD2, ?_⟩
    · rw [List.length_map, List.length_map, List.length_take]
      exact lt_size (by have := ok.few; omega)
    · rw [upd_same, take_snoc hp1, List.map_append, List.map_append]
      rfl
  obtain ⟨t2, hacc2⟩ := q
  rw [lg, List.take_length] at hacc2
  have t12 := t1.trans t2
  refine ⟨1, by decide, eqS_strs (t2 _ _ hacc) hacc2, _, rfl, iteF ?_⟩
  refine ⟨_, rfl, fa, _, _, _, rfl, rfl, SqT.of (t12 _ _ ef), at1, ca, rfl, ⟨_, SqT.of (t12 _ _ ec)⟩, fun D3 hD3 => lc_tup (K := K) (a := ca) (xs := cxs) (fun i H' => Filled H2 D3 ((m.chans.take i).map ch3) H') ⟨same_new hD3, [], upd_same, .nil⟩ (fun i H' _ q => SqT.of (q.1 _ _ (t12 _ _ ec))) (fun i x H' hx q => ?_) (fun H3 q => ?_)⟩
  · obtain ⟨t3, acc, hacc3, iacc⟩ := q
    obtain ⟨p1, hp1, ix⟩ := iml_map ic hx
    obtain ⟨qa, y1, y2, y3, y4, rfl, eq, n1, n2, n3, n4⟩ := im4 (ix.mono (Tk.of (t12.trans t3)))
    refine ⟨rfl, lcY (iteT ?_)⟩
    refine ⟨_, rfl, _, rfl, qa, _, rfl, SqT.of eq, (by show ¬ (HT.sIx 4 0 none = 0 ∧ HT.sIx 4 4 (some 3) = 4); decide), fun p hp => ?_⟩
    have t4 : Same H' (upd H' p (.tup [y1, y2, y3])) := same_new hp
    have hlen : acc.length ≤ 1000 := by
      rw [iacc.length, List.length_map, List.length_take]
      have := ok.chans
      omega
    refine ⟨acc, t4 _ _ hacc3, lt_size (by omega), ?_⟩
    rw [take_snoc hp1, List.map_append]
    exact Filled.app hD3 (t3.trans t4) (t4 _ _ hacc3) (iacc.mono (Tk.of t4)) (im_new hp (.cons n1 (.cons n2 (.cons n3 .nil))))
  obtain ⟨t3, acc, hacc3, iacc⟩ := q
  rw [lc, List.take_length] at iacc
  have t13 := t12.trans t3
  refine ⟨_, rfl, sa, _, _, _, rfl, rfl, SqT.of (t13 _ _ es), at1, da, rfl, ⟨_, SqT.of (t13 _ _ ed)⟩, fun D4 hD4 => lc_tup (K := K) (a := da) (xs := dxs) (fun i H' => Filled H3 D4 ((m.chans.take i).map ch3) H') ⟨same_new hD4, [], upd_same, .nil⟩ (fun i H' _ q => SqT.of (q.1 _ _ (t13 _ _ ed))) (fun i x H' hx q => ?_) (fun H4 q => ?_)⟩
  · obtain ⟨t4, acc4, hacc4, iacc4⟩ := q
    obtain ⟨p1, hp1, ix⟩ := iml_map id' hx
    obtain ⟨qa, y1, y2, y3, y4, rfl, eq, n1, n2, n3, n4⟩ := im4 (ix.mono (Tk.of (t13.trans t4)))
    refine ⟨rfl, lcY (iteT ?_)⟩
    refine ⟨_, rfl, _, rfl, qa, _, rfl, SqT.of eq, (by show ¬ (HT.sIx 4 0 none = 0 ∧ HT.sIx 4 4 (some 3) = 4); decide), fun p hp => ?_⟩
    have t5 : Same H' (upd H' p (.tup [y1, y2, y3])) := same_new hp
    have hlen : acc4.length ≤ 1000 := by
      rw [iacc4.length, List.length_map, List.length_take]
      have := ok.chans
      omega
    refine ⟨acc4, t5 _ _ hacc4, lt_size (by omega), ?_⟩
    rw [take_snoc hp1, List.map_append]
    exact Filled.app hD4 (t4.trans t5) (t5 _ _ hacc4) (iacc4.mono (Tk.of t5)) (im_new hp (.cons n1 (.cons n2 (.cons n3 .nil))))
  obtain ⟨t4, acc4, hacc4, iacc4⟩ := q
  rw [ld, List.take_length] at iacc4
  have t14 := t13.trans t4
  have dep : ∀ d ∈ m.chans.map ch3, DpL 2 d := fun d hd => by
    obtain ⟨c, _, rfl⟩ := List.mem_map.mp hd
    intro e he
    rcases List.mem_cons.mp he with rfl | he
    · trivial
    rcases List.mem_cons.mp he with rfl | he
    · trivial
    rcases List.mem_cons.mp he with rfl | he
    · trivial
    cases he
  refine ⟨2, by decide, .inl ⟨D3, D4, acc, acc4, rfl, rfl, SqL.of (t4 _ _ hacc3), SqL.of hacc4, iml_eqX dep (iacc.mono (Tk.of t4)) iacc4⟩, _, rfl, iteF ?_⟩
  refine ⟨_, rfl, fa, _, _, _, rfl, rfl, SqT.of (t14 _ _ ef), at1, _, rfl, sa, _, _, _, rfl, rfl, SqT.of (t14 _ _ es), at1, ca, da, cxs, dxs, rfl, .inr ⟨SqT.of (t14 _ _ ec), SqT.of (t14 _ _ ed), RZ.for_zipT (by rw [lc, ld]) (fun i σ H' => Same H H' ∧ ∃ o3 o4 o5 o6, σ = [some (.ref fa), some (.ref sa), some (.ref wx), o3, o4, o5, o6]) ⟨t14, _, _, _, _, rfl⟩
    (fun i σ H' q => ⟨SqT.of (q.1 _ _ ec), SqT.of (q.1 _ _ ed)⟩) ?_ ?_⟩⟩
  · rintro i x y q σ H5 hx hy ⟨t5, o3, o4, o5, o6, rfl⟩ hq
    obtain ⟨pp, hp, ix⟩ := iml_map ic hx
    obtain ⟨pp', hp', iy⟩ := iml_map id' hy
    rw [hp] at hp'
    cases hp'
    have t6 : Same H (upd H5 q (.tup [x, y])) := t5.trans (same_new hq)
    obtain ⟨xa, x1, x2, x3, x4, rfl, ex, m1, m2, m3, m4⟩ := im4 (ix.mono (Tk.of t6))
    cases im_str m4
    obtain ⟨ya, y1, y2, y3, y4, rfl, ey, n1, n2, n3, n4⟩ := im4 (iy.mono (Tk.of t6))
    cases im_str n4
    refine ⟨q, _, rfl, SqT.of upd_same, rfl, _, _, rfl, _, _, rfl, rfl, ?_⟩
    refine ⟨_, rfl, _, rfl, xa, _, _, _, rfl, rfl, SqT.of ex, at3, wx, m.kinds, pp.kind, rfl, hw.mono t6, rfl, ok.know pp (List.mem_of_getElem? hp), ?_⟩
    refine ⟨_, rfl, ya, _, _, _, rfl, rfl, SqT.of ey, at3, rfl, _, rfl, ?_⟩
    rw [strT]
    exact iteF ⟨t6, _, _, _, _, rfl⟩
  · rintro σ H5 ⟨t5, _⟩
    exact k1 _ t5
/- Over.__init__: slots 0 self 1 first 2 second 3 told_ways 4 told_places 5 ways 6 kinds_lacking 7 all_ways 8 place 9 way 10 places 11 places_lacking -/
theorem sc_Over_init : FnScope ["self", "first", "second", "told_ways", "told_places", "ways", "kinds_lacking", "all_ways", "place", "way", "places", "places_lacking"] ["self", "first", "second", "told_ways", "told_places"] (defScope s_Over_init) := ⟨rfl, rfl, rfl, by decide +kernel, rfl, by decide +kernel, by decide +kernel⟩
theorem ok_Over (T : Txt K mg) (c_made_ways : C8.Cal P w K mg base 4 "made_ways" spMadeW []) (c_look_ways : C8.Cal P w K mg base 10 "look_ways" spLookWs []) (c_need_fit : C8.Cal P w K mg base 2 "need_fit" spFit [])
    (c_made_places : C8.Cal P w K mg base 5 "made_places" spMadeP []) : C8.Mak P w K mg base 11 "Over" (C_Over K) (spOver K) [] := by
  refine mkMak (f_Over_init T) (g_Over T) (mk_Over T) sc_Over_init (fun _ _ _ _ _ _ us hl => match us, hl with | [_, _, _, _, _], _ => rfl) (fun vs H Q E h => ?_) (fun vs H Q E h => ?_)
  · obtain ⟨a, b, c, d, e, rfl, _⟩ := sp5_len h
    rfl
  obtain ⟨a, b, c, d, e, rfl, h⟩ := sp5_len h
  intro cdv A outer s E hr
  have hu := hu_of hr
  obtain ⟨m, x, dx, tw, tp, rfl, hx, h1, h2, rfl, htw, rfl, htp, ok, k1⟩ := h
  refine ⟨_, (pss_cons (ps_asg (C8.pe_c c_made_ways hr (by omega) rfl (pa_cons (pv 1) (pa_cons (pv 2) (pa_cons (pv 3) pa_nil)))) (pg_tup rfl (pgs_cons (pg_name (i := 5) sc_Over_init.nd rfl (by first | exact .inl rfl | exact .inr rfl)) (pgs_cons (pg_name (i := 6) sc_Over_init.nd rfl (by first | exact .inl rfl | exact .inr rfl)) pgs_nil))))
        (pss_cons (ps_set (i := 7) sc_Over_init.nd rfl (by first | exact .inl rfl | exact .inr rfl) (pe_callTy call_dictD rfl (z_dict T) (by decide +kernel) (pa_cons (pv 3) pa_nil)))
        (pss_cons (ps_expr (pe_bm PySem.F.plainAttrs_dict PySem.F.slot_dict_update PySem.F.type_dict_update mt_update (pv 7) (pa_cons (pv 5) pa_nil)))
        (pss_cons (ps_expr (C8.pe_c c_look_ways hr (by omega) rfl (pa_cons (pv 1) (pa_cons (pv 2) (pa_cons (pv 7) pa_nil)))))
        (pss_cons (ps_expr (C8.pe_c c_need_fit hr (by omega) rfl (pa_cons (pv 1) (pa_cons (pv 2) (pa_cons (pv 5) pa_nil)))))
        (pss_cons (ps_lock (ps_for PassesOwn.never rfl (pi_items (pv 4)) (pg_tup rfl (pgs_cons (pg_name (i := 8) sc_Over_init.nd rfl (by first | exact .inl rfl | exact .inr rfl)) (pgs_cons (pg_name (i := 9) sc_Over_init.nd rfl (by first | exact .inl rfl | exact .inr rfl)) pgs_nil))) pss_never))
        (pss_cons (ps_retag (ps_asg (C8.pe_c c_made_places hr (by omega) rfl (pa_cons (pv 1) (pa_cons (pv 2) (pa_cons (pv 5) (pa_cons (pv 4) pa_nil))))) (pg_tup rfl (pgs_cons (pg_name (i := 10) sc_Over_init.nd rfl (by first | exact .inl rfl | exact .inr rfl)) (pgs_cons (pg_name (i := 11) sc_Over_init.nd rfl (by first | exact .inl rfl | exact .inr rfl)) pgs_nil)))))
        (pss_cons (ps_fld (pv 0) (pv 1) rfl)
        (pss_cons (ps_fld (pv 0) (pv 2) rfl)
        (pss_cons (ps_fld (pv 0) (pv 5) rfl)
        (pss_cons (ps_fld (pv 0) (pv 10) rfl)
        (pss_one (ps_fld (pv 0) (pe_tup (pa_cons (pv 6) (pa_cons (pv 11) pa_nil))) rfl))))))))))))), ?_⟩
  refine ⟨_, rfl, _, rfl, _, rfl, m, tw, h1, h2, rfl, htw, ok.kinds, fun H1 r q l hq hf hr => ?_⟩
  obtain ⟨t1, kvs, hd, hkv⟩ := hf
  refine ⟨r, _, rfl, SqT.of hr, rfl, _, _, rfl, _, _, rfl, rfl, ?_⟩
  refine ⟨_, rfl, tw, _, rfl, rd_of (t1 _ _ htw), fun aw haw => ?_⟩
  have t2 : Same H1 (upd H1 aw (.dK [])) := same_new haw
  have haq : aw ≠ q := by
    rintro rfl
    rw [hd] at haw
    cases haw
  refine ⟨_, rfl, .inr (.inr (.inl ⟨rfl, .inl ⟨_, upd_same⟩⟩)), _, rfl, aw, q, _, kvs, rfl, rfl, haq, upd_same, rd_of (t2 _ _ hd), le_size (by rw [hkv.length]; unfold waysE; rw [List.length_map]; have := ok.kinds.few; show 0 + _ ≤ _; omega), ?_⟩
  rw [upd_upd]
  have hkv2 : KvI H1 (mergeK [] kvs) (waysE m.kinds) := by
    have := kvI_merge hkv (ks := []) (ρ := []) .nil (by rw [List.nil_append]; unfold waysE; rw [List.map_map]; exact ok.kinds.nd)
    exact this
  generalize mergeK [] kvs = mk at hkv2 ⊢
  have t3 : Same H1 (upd H1 aw (.dK mk)) := same_new haw
  have t13 := t1.trans t3
  refine ⟨_, rfl, _, rfl, _, rfl, m, aw, mk, h1.mono (Tk.of t13), h2.mono (Tk.of t13), rfl, upd_same, hkv2.mono (Tk.of t3), ok.kinds.ok, ok.kinds.nd, fun H2 u1 => ?_⟩
  have t4 := t13.trans u1
  have hq2 : H2 q = some (.dK kvs) := u1 _ _ (t3 _ _ hd)
  have hw2 : WaysAt H2 q m.kinds := ⟨kvs, rd_of hq2, hkv.mono (Tk.of (t3.trans u1))⟩
  refine ⟨_, rfl, _, rfl, _, rfl, m, q, h1.mono (Tk.of t4), h2.mono (Tk.of t4), rfl, hw2, ok, fun H3 u2 => ?_⟩
  have t5 := t4.trans u2
  have htp3 := t5 _ _ htp
  refine ⟨tp, _, htp3, trivial, fun od => ?_⟩
  refine ⟨_, rfl, tp, od, [], rfl, upd_same, L2.for_it walk_items (fun i σ H' => H' = upd H3 tp (.frz od (.dK [])) ∧ ∃ o8 o9, σ = [some (.ref x), some b, some c, some (.ref tw), some (.ref tp), some (.ref q), some (.ref l), some (.ref aw), o8, o9, none, none]) ⟨rfl, _, _, rfl⟩ (fun i σ H' _ z => z.1 ▸ upd_same) ?_ ?_⟩
  · rintro i y σ Ha Hb hi _ _
    exact absurd hi (Nat.not_lt_zero i)
  rintro σ H' ⟨rfl, o8, o9, rfl⟩
  refine ⟨upd_same, ?_⟩
  have e3 : upd (upd H3 tp (.frz od (.dK []))) tp (.dK []) = H3 := by
    rw [upd_upd]
    funext z
    by_cases hz : z = tp
    · subst hz
      rw [upd_same, htp3]
    · rw [upd_ne hz]
  rw [e3]
  refine ⟨tp, htp3, ?_⟩
  have b1 : Bt (fun a => a = tp) H3 (upd H3 tp (.dT [])) := Bt.put rfl
  have k3 : Tk H3 (upd H3 tp (.dT [])) := tk_put htp3 ntK
  have hqt : q ≠ tp := by
    rintro rfl
    rw [htp] at hq
    cases hq
  have hxt : x ≠ tp := by
    rintro rfl
    rw [hx] at htp
    cases htp
  have hw3 : WaysAt (upd H3 tp (.dT [])) q m.kinds := ⟨kvs, rd_of (by rw [upd_ne hqt]; exact u2 _ _ hq2), (hkv.mono (Tk.of ((t3.trans u1).trans u2))).mono k3⟩
  have kk : Tk H (upd H3 tp (.dT [])) := (Tk.of t5).trans k3
  refine ⟨_, rfl, _, rfl, _, rfl, _, rfl, m, q, tp, h1.mono kk, h2.mono kk, rfl, hw3, rfl, upd_same, ok, fun H4 pr px pl pkvs u3 hpx hpk hpl hpr => ?_⟩
  refine ⟨pr, _, rfl, SqT.of hpr, rfl, _, _, rfl, _, _, rfl, rfl, ?_⟩
  have hx4 : H4 x = some (.ins (C_Over K) dx []) := u3 _ _ (by rw [upd_ne hxt]; exact t5 _ _ hx)
  have cl := cl_Over T
  refine ⟨_, rfl, _, rfl, x, _, dx, _, rfl, hx4, cl, na_Over_first T, (by show (0 : Nat) < 1000; decide), ?_⟩
  refine ⟨_, rfl, _, rfl, x, _, dx, _, rfl, upd_same, cl, na_Over_second T, lt1000 (by kernel_rfl), ?_⟩
  rw [upd_upd]
  refine ⟨_, rfl, _, rfl, x, _, dx, _, rfl, upd_same, cl, na_Over_ways T, lt1000 (by kernel_rfl), ?_⟩
  rw [upd_upd]
  refine ⟨_, rfl, _, rfl, x, _, dx, _, rfl, upd_same, cl, na_Over_places T, lt1000 (by kernel_rfl), ?_⟩
  rw [upd_upd]
  refine ⟨_, rfl, _, rfl, le_size (by show 2 ≤ 100000; decide), fun lk hlk => ?_⟩
  have hne : x ≠ lk := by
    rintro rfl
    rw [upd_same] at hlk
    cases hlk
  refine ⟨_, rfl, x, C_Over K, dx, _, rfl, (by rw [upd_ne hne]; exact upd_same), cl, na_Over_lacking T, lt1000 (by kernel_rfl), ?_⟩
  rw [i_Over]
  generalize hHf : upd (upd (upd H4 x _) lk _) x _ = Hf
  have e5 : ∀ a o, H4 a = some o → a ≠ x → Hf a = some o := fun a o e ne => by
    have hl : a ≠ lk := by
      rintro rfl
      rw [upd_ne ne, e] at hlk
      cases hlk
    rw [← hHf, upd_ne ne, upd_ne hl, upd_ne ne]
    exact e
  have k4 : Tk H4 Hf := fun a o e tt => e5 a o e (by
    rintro rfl
    rw [hx4] at e
    cases e
    exact tt)
  have kf : Tk H Hf := (kk.trans (Tk.of u3)).trans k4
  refine k1 Hf q px ?_ hq ?_ ⟨?_, h1.mono kf, h2.mono kf, ?_, ?_⟩
  · intro a o e hna
    have ht : a ≠ tp := fun z => hna (.inr z)
    exact e5 a o (u3 _ _ (by rw [upd_ne ht]; exact t5 _ _ e)) fun z => hna (.inl z)
  · have h3 : H3 px = none := by
      by_cases hz : px = tp
      · subst hz
        rw [upd_same] at hpx
        cases hpx
      · rw [upd_ne hz] at hpx
        exact hpx
    cases e : H px with
    | none => rfl
    | some o => rw [t5 _ _ e] at h3; cases h3
  · exact ⟨dx, .ref lk, by rw [← hHf, upd_same]⟩
  · have hqx : q ≠ x := by
      rintro rfl
      rw [hx] at hq
      cases hq
    refine ⟨kvs, e5 _ _ (u3 _ _ (by rw [upd_ne hqt]; exact u2 _ _ hq2)) hqx, ?_⟩
    exact ((((hkv.mono (Tk.of ((t3.trans u1).trans u2))).mono k3).mono (Tk.of u3)).mono k4)
  · have hpxx : px ≠ x := by
      rintro rfl
      rw [hx4] at hpk
      cases hpk
    exact ⟨pkvs, e5 _ _ hpk hpxx, hpl.mono k4⟩
end
end SwK
set_option maxHeartbeats 4000000
/-! the machine: its states, its steps -/
namespace SwK
open PySem PySem.Spec PyProof.Rows L2
structure HSt where
  line : Nat
  env : List (Str × Da)
  notes : List Da
  done : Nat
structure MSt where
  hand : Str → HSt
  row : Str → List Da
def MSt.at (st : MSt) (h : Str) (s : HSt) : MSt := ⟨fun g => if g = h then s else st.hand g, st.row⟩
def MSt.rowAt (st : MSt) (c : Str) (l : List Da) : MSt := ⟨st.hand, fun d => if d = c then l else st.row d⟩
theorem MSt.at_same {st : MSt} {h : Str} {s : HSt} : (st.at h s).hand h = s := if_pos rfl
theorem MSt.at_ne {st : MSt} {h g : Str} {s : HSt} (n : g ≠ h) : (st.at h s).hand g = st.hand g := if_neg n
theorem MSt.row_same {st : MSt} {c : Str} {l : List Da} : (st.rowAt c l).row c = l := if_pos rfl
theorem MSt.row_ne {st : MSt} {c d : Str} {l : List Da} (n : d ≠ c) : (st.rowAt c l).row d = st.row d := if_neg n
/-- a step of hand h, the row that it stands at being r -/
inductive AStep (m : Mk0) (st : MSt) (h : Str) : Rw → Bool → MSt → Prop
  | fin : AStep m st h .fin false st
  | wait {l c x : Str} : st.row c = [] → AStep m st h (.take l c x) false st
  | take {l c x : Str} {d : Da} {r : List Da} : st.row c = d :: r → AStep m st h (.take l c x) true ((st.at h ⟨(st.hand h).line + 1, putE (st.hand h).env x d, (st.hand h).notes, (st.hand h).done + 1⟩).rowAt c r)
  | send {c : Str} {e v : Da} : Ev m.kinds 8 (st.hand h).env e v → AStep m st h (.send c e) true ((st.at h ⟨(st.hand h).line + 1, (st.hand h).env, (st.hand h).notes, (st.hand h).done + 1⟩).rowAt c (st.row c ++ [v]))
  | set {x : Str} {e v : Da} : Ev m.kinds 8 (st.hand h).env e v → AStep m st h (.set x e) true (st.at h ⟨(st.hand h).line + 1, putE (st.hand h).env x v, (st.hand h).notes, (st.hand h).done + 1⟩)
  | tell {e v : Da} : Ev m.kinds 8 (st.hand h).env e v → AStep m st h (.tell e) true (st.at h ⟨(st.hand h).line + 1, (st.hand h).env, (st.hand h).notes ++ [v], (st.hand h).done + 1⟩)
  | go {k : Nat} : AStep m st h (.go k) true (st.at h ⟨k, (st.hand h).env, (st.hand h).notes, (st.hand h).done + 1⟩)
  | ite {e : Da} {k : Nat} {i : Int} : Ev m.kinds 8 (st.hand h).env e (.int i) → AStep m st h (.ite e k) true (st.at h ⟨if i = 0 then (st.hand h).line + 1 else k, (st.hand h).env, (st.hand h).notes, (st.hand h).done + 1⟩)
/-- a row of a hand is right -/
def RwOk (m : Mk0) (hd : Hn) : Rw → Prop
  | .set x e => ∃ k, lkE hd.boxes x = some k ∧ Tm m.kinds 8 hd.boxes k e
  | .send c e => ∃ ch ∈ m.chans, ch.name = c ∧ ch.src = hd.name ∧ Tm m.kinds 8 hd.boxes ch.kind e
  | .take _ c x => ∃ ch ∈ m.chans, ch.name = c ∧ ch.dst = hd.name ∧ lkE hd.boxes x = some ch.kind
  | .tell e => Tm m.kinds 8 hd.boxes "num" e
  | .go k => k < hd.rows.length
  | .ite e k => Tm m.kinds 8 hd.boxes "num" e ∧ k < hd.rows.length
  | .fin => True
structure HdOk (m : Mk0) (hd : Hn) : Prop where
  nd : (hd.boxes.map (·.1)).Nodup
  few : hd.boxes.length ≤ 6
  lev : ∀ b ∈ hd.boxes, LvK m.kinds 4 b.2
  some' : hd.rows ≠ []
  rfew : hd.rows.length ≤ 20
  rows : ∀ r ∈ hd.rows, RwOk m hd r
  last : ∀ i r, hd.rows[i]? = some r → i + 1 < hd.rows.length ∨ r = .fin ∨ ∃ k, r = .go k
/-- a make that is right -/
structure MkOk (m : Mk0) : Prop where
  ks : KsOk m.kinds
  hands : ∀ hd ∈ m.hands, HdOk m hd
  hn : (m.hands.map Hn.name).Nodup
  hfew : m.hands.length ≤ 4
  hpos : m.hands ≠ []
  cn : (m.chans.map Ch.name).Nodup
  cfew : m.chans.length ≤ 10
  ch : ∀ c ∈ m.chans, LvK m.kinds 4 c.kind ∧ c.src ∈ m.hands.map Hn.name ∧ c.dst ∈ m.hands.map Hn.name
/-- a state that is right -/
structure WT (m : Mk0) (st : MSt) : Prop where
  env : ∀ hd ∈ m.hands, EnvT m.kinds hd.boxes (st.hand hd.name).env
  line : ∀ hd ∈ m.hands, (st.hand hd.name).line < hd.rows.length
  notes : ∀ hd ∈ m.hands, ∀ d ∈ (st.hand hd.name).notes, NumV d
  row : ∀ c ∈ m.chans, ∀ d ∈ st.row c.name, VT m.kinds 4 c.kind d
structure Sz (m : Mk0) (n : Nat) (st : MSt) : Prop where
  notes : ∀ hd ∈ m.hands, (st.hand hd.name).notes.length ≤ n
  done : ∀ hd ∈ m.hands, (st.hand hd.name).done ≤ n
  row : ∀ c ∈ m.chans, (st.row c.name).length ≤ n
theorem lookH_of {m : Mk0} (hn : (m.hands.map Hn.name).Nodup) {hd : Hn} (h : hd ∈ m.hands) : lookH m hd.name = some hd := by
  unfold lookH
  generalize m.hands = l at hn h
  induction l with
  | nil => cases h
  | cons k ks ih =>
    rw [List.map_cons, List.nodup_cons] at hn
    rw [List.find?_cons]
    rcases List.mem_cons.mp h with e | h
    · subst e
      simp
    · have hne : ¬ k.name = hd.name := fun e => hn.1 (e ▸ List.mem_map.mpr ⟨hd, h, rfl⟩)
      rw [decide_eq_false hne]
      exact ih hn.2 h
theorem name_inj {α : Type} {g : α → Str} {l : List α} (hn : (l.map g).Nodup) {a b : α} (ha : a ∈ l) (hb : b ∈ l) (e : g a = g b) : a = b := by
  obtain ⟨i, hi⟩ := List.getElem?_of_mem ha
  obtain ⟨j, hj⟩ := List.getElem?_of_mem hb
  have e1 : (l.map g)[i]? = some (g a) := by rw [List.getElem?_map, hi]; rfl
  have e2 : (l.map g)[j]? = some (g a) := by rw [List.getElem?_map, hj, e]; rfl
  have := nd_ix hn e1 e2
  subst this
  rw [hi] at hj
  exact Option.some.inj hj
theorem EnvT.len {ks : List Kd} {Γ : List (Str × Str)} {ρ : List (Str × Da)} (h : EnvT ks Γ ρ) : ρ.length = Γ.length := by
  have := congrArg List.length h.1
  rw [List.length_map, List.length_map] at this
  exact this
/-- what changes at one hand -/
theorem WT.at {m : Mk0} (ok : MkOk m) {st : MSt} (w : WT m st) {hd : Hn} (hm : hd ∈ m.hands) {s : HSt} (h1 : EnvT m.kinds hd.boxes s.env) (h2 : s.line < hd.rows.length) (h3 : ∀ d ∈ s.notes, NumV d) : WT m (st.at hd.name s) := by
  have key : ∀ hd' ∈ m.hands, ∀ {F : HSt → Prop}, F (st.hand hd'.name) → (hd' = hd → F s) → F ((st.at hd.name s).hand hd'.name) := by
    intro hd' hm' F a b
    by_cases e : hd'.name = hd.name
    · have := name_inj ok.hn hm' hm e
      subst this
      rw [MSt.at_same]
      exact b rfl
    · rw [MSt.at_ne e]
      exact a
  refine ⟨fun hd' hm' => ?_, fun hd' hm' => ?_, fun hd' hm' => ?_, w.row⟩
  · exact key hd' hm' (F := fun s => EnvT m.kinds hd'.boxes s.env) (w.env hd' hm') fun e => e ▸ h1
  · exact key hd' hm' (F := fun s => s.line < hd'.rows.length) (w.line hd' hm') fun e => e ▸ h2
  · exact key hd' hm' (F := fun s => ∀ d ∈ s.notes, NumV d) (w.notes hd' hm') fun e => h3
theorem WT.rowAt {m : Mk0} (ok : MkOk m) {st : MSt} (w : WT m st) {ch : Ch} (hm : ch ∈ m.chans) {l : List Da} (h : ∀ d ∈ l, VT m.kinds 4 ch.kind d) : WT m (st.rowAt ch.name l) := by
  refine ⟨w.env, w.line, w.notes, fun c hc => ?_⟩
  by_cases e : c.name = ch.name
  · have := name_inj ok.cn hc hm e
    subst this
    rw [MSt.row_same]
    exact h
  · rw [MSt.row_ne e]
    exact w.row c hc
theorem Sz.at {m : Mk0} (ok : MkOk m) {st : MSt} {n : Nat} (w : Sz m n st) {hd : Hn} (hm : hd ∈ m.hands) {s : HSt} (h1 : s.notes.length ≤ n + 1) (h2 : s.done ≤ n + 1) : Sz m (n + 1) (st.at hd.name s) := by
  refine ⟨fun hd' hm' => ?_, fun hd' hm' => ?_, fun c hc => Nat.le_succ_of_le (w.row c hc)⟩
  all_goals
    by_cases e : hd'.name = hd.name
    · have := name_inj ok.hn hm' hm e
      subst this
      rw [MSt.at_same]
      assumption
    · rw [MSt.at_ne e]
      first | exact Nat.le_succ_of_le (w.notes hd' hm') | exact Nat.le_succ_of_le (w.done hd' hm')
theorem Sz.mono {m : Mk0} {st : MSt} {n k : Nat} (w : Sz m n st) (h : n ≤ k) : Sz m k st :=
  ⟨fun a b => Nat.le_trans (w.notes a b) h, fun a b => Nat.le_trans (w.done a b) h, fun a b => Nat.le_trans (w.row a b) h⟩
theorem Sz.rowAt {m : Mk0} (ok : MkOk m) {st : MSt} {n : Nat} (w : Sz m n st) {ch : Ch} (hm : ch ∈ m.chans) {l : List Da} (h : l.length ≤ n) : Sz m n (st.rowAt ch.name l) := by
  refine ⟨w.notes, w.done, fun c hc => ?_⟩
  by_cases e : c.name = ch.name
  · have := name_inj ok.cn hc hm e
    subst this
    rw [MSt.row_same]
    exact h
  · rw [MSt.row_ne e]
    exact w.row c hc
/-- each hand has a step -/
theorem step_ex {m : Mk0} (ok : MkOk m) {st : MSt} (w : WT m st) {hd : Hn} (hm : hd ∈ m.hands) {r : Rw} (hr : hd.rows[(st.hand hd.name).line]? = some r) :
    ∃ b st', AStep m st hd.name r b st' ∧ WT m st' ∧ ∀ n, Sz m n st → Sz m (n + 1) st' := by
  have hk := ok.hands hd hm
  have he := w.env hd hm
  have hl := w.line hd hm
  have hn := w.notes hd hm
  have hlen := he.len
  have hf := hk.few
  have row := hk.rows r (List.mem_of_getElem? hr)
  have next : (∀ k, r ≠ .go k) → r ≠ .fin → (st.hand hd.name).line + 1 < hd.rows.length := fun a b => by
    rcases hk.last _ _ hr with h | h | ⟨k, h⟩
    · exact h
    · exact absurd h b
    · exact absurd h (a k)
  cases r with
  | fin => exact ⟨false, st, .fin, w, fun n z => z.mono (Nat.le_succ n)⟩
  | go k =>
    refine ⟨true, _, .go, w.at ok hm he row hn, fun n z => z.at ok hm (Nat.le_succ_of_le (z.notes hd hm)) (Nat.succ_le_succ (z.done hd hm))⟩
  | take l c x =>
    obtain ⟨ch, hc, rfl, hdst, hx⟩ := row
    cases e : st.row ch.name with
    | nil => exact ⟨false, st, .wait e, w, fun n z => z.mono (Nat.le_succ n)⟩
    | cons d q =>
      have hv : ∀ d' ∈ st.row ch.name, VT m.kinds 4 ch.kind d' := w.row ch hc
      rw [e] at hv
      refine ⟨true, _, .take e, (w.at ok hm (s := ⟨(st.hand hd.name).line + 1, putE (st.hand hd.name).env x d, (st.hand hd.name).notes, (st.hand hd.name).done + 1⟩) (envT_put he hx (hv d List.mem_cons_self)) (next (fun k z => by cases z) (fun z => by cases z)) hn).rowAt ok hc fun d' hd' => hv d' (List.mem_cons_of_mem _ hd'), fun n z => ?_⟩
      refine (z.at ok hm (s := ⟨(st.hand hd.name).line + 1, putE (st.hand hd.name).env x d, (st.hand hd.name).notes, (st.hand hd.name).done + 1⟩) (Nat.le_succ_of_le (z.notes hd hm)) (Nat.succ_le_succ (z.done hd hm))).rowAt ok hc ?_
      have := z.row ch hc
      rw [e] at this
      exact Nat.le_trans (Nat.le_of_succ_le this) (Nat.le_succ n)
  | send c e =>
    obtain ⟨ch, hc, rfl, hsrc, ht⟩ := row
    obtain ⟨v, v1, v2⟩ := tm_ev ok.ks ht he (by omega)
    refine ⟨true, _, .send v1, (w.at ok hm (s := ⟨(st.hand hd.name).line + 1, (st.hand hd.name).env, (st.hand hd.name).notes, (st.hand hd.name).done + 1⟩) he (next (fun k z => by cases z) (fun z => by cases z)) hn).rowAt ok hc fun d' hd' => ?_, fun n z => ?_⟩
    · rcases List.mem_append.mp hd' with h | h
      · exact w.row ch hc d' h
      · have := List.mem_singleton.mp h
        subst this
        exact v2
    · refine (z.at ok hm (s := ⟨(st.hand hd.name).line + 1, (st.hand hd.name).env, (st.hand hd.name).notes, (st.hand hd.name).done + 1⟩) (Nat.le_succ_of_le (z.notes hd hm)) (Nat.succ_le_succ (z.done hd hm))).rowAt ok hc ?_
      rw [List.length_append]
      exact Nat.succ_le_succ (z.row ch hc)
  | set x e =>
    obtain ⟨k, hx, ht⟩ := row
    obtain ⟨v, v1, v2⟩ := tm_ev ok.ks ht he (by omega)
    exact ⟨true, _, .set v1, w.at ok hm (s := ⟨(st.hand hd.name).line + 1, putE (st.hand hd.name).env x v, (st.hand hd.name).notes, (st.hand hd.name).done + 1⟩) (envT_put he hx v2) (next (fun k z => by cases z) (fun z => by cases z)) hn, fun n z => z.at ok hm (Nat.le_succ_of_le (z.notes hd hm)) (Nat.succ_le_succ (z.done hd hm))⟩
  | tell e =>
    obtain ⟨v, v1, v2⟩ := tm_ev ok.ks (show Tm m.kinds 8 hd.boxes "num" e from row) he (by omega)
    refine ⟨true, _, .tell v1, w.at ok hm he (next (fun k z => by cases z) (fun z => by cases z)) fun d hd' => ?_, fun n z => z.at ok hm ?_ (Nat.succ_le_succ (z.done hd hm))⟩
    · rcases List.mem_append.mp hd' with h | h
      · exact hn d h
      · have := List.mem_singleton.mp h
        subst this
        exact vt_num ok.ks.num v2
    · rw [List.length_append]
      exact Nat.succ_le_succ (z.notes hd hm)
  | ite e k =>
    obtain ⟨ht, hk2⟩ := row
    obtain ⟨v, v1, v2⟩ := tm_ev ok.ks ht he (by omega)
    obtain ⟨i, rfl, _, _⟩ := vt_num ok.ks.num v2
    refine ⟨true, _, .ite v1, w.at ok hm he ?_ hn, fun n z => z.at ok hm (Nat.le_succ_of_le (z.notes hd hm)) (Nat.succ_le_succ (z.done hd hm))⟩
    show (if i = 0 then _ else k) < _
    split
    · exact next (fun k z => by cases z) (fun z => by cases z)
    · exact hk2
/-- the first state -/
def st0 (m : Mk0) : MSt := ⟨fun h => match lookH m h with | some hd => ⟨0, hd.boxes.map fun b => (b.1, nt m.kinds 4 b.2), [], 0⟩ | none => ⟨0, [], [], 0⟩, fun _ => []⟩
theorem st0_hand {m : Mk0} (ok : MkOk m) {hd : Hn} (hm : hd ∈ m.hands) : (st0 m).hand hd.name = ⟨0, hd.boxes.map fun b => (b.1, nt m.kinds 4 b.2), [], 0⟩ := by
  show (match lookH m hd.name with | some hd => _ | none => _) = _
  rw [lookH_of ok.hn hm]
theorem st0_wt {m : Mk0} (ok : MkOk m) : WT m (st0 m) := by
  refine ⟨fun hd hm => ?_, fun hd hm => ?_, fun hd hm => ?_, fun c hc d hd => by cases hd⟩
  · rw [st0_hand ok hm]
    have hk := ok.hands hd hm
    refine ⟨by rw [List.map_map]; rfl, hk.nd, fun x k e => ?_⟩
    have hm2 := lkE_mem e
    refine ⟨nt m.kinds 4 k, lkE_of_mem (by rw [List.map_map]; exact hk.nd) (List.mem_map.mpr ⟨_, hm2, rfl⟩), nt_vt ok.ks.num (hk.lev _ hm2)⟩
  · rw [st0_hand ok hm]
    exact List.length_pos_iff.mpr (ok.hands hd hm).some'
  · rw [st0_hand ok hm]
    intro d h
    cases h
theorem st0_sz {m : Mk0} (ok : MkOk m) : Sz m 0 (st0 m) :=
  ⟨fun hd hm => by rw [st0_hand ok hm]; exact Nat.le_refl 0, fun hd hm => by rw [st0_hand ok hm]; exact Nat.le_refl 0, fun c hc => Nat.le_refl 0⟩
end SwK
set_option maxHeartbeats 4000000
/-! machines in the heap: owners, frames -/
namespace SwK
open PySem PySem.Spec PyProof.Rows L2
/-- an owner: what it is (0 the machine, 1 its hands, 2 its rows, 3 a hand, 4 its boxes, 5 its notes, 6 a row, 7.. a plain hand's), whose -/
abbrev Tg := Nat × Str
abbrev Tags := Addr → Option Tg
abbrev tgI (i : Nat) : Tg := (i, ("" : Str))
def BtT (τ : Tags) (T : Tg → Prop) (H H' : Hp) : Prop := ∀ a o, H a = some o → (∀ t, τ a = some t → ¬ T t) → H' a = some o
def OwnAt (H : Hp) (τ : Tags) : Prop := ∀ a t, τ a = some t → ∃ o, H a = some o ∧ ¬ TupO o
structure ExtT (H : Hp) (τ τ' : Tags) : Prop where
  up : ∀ a t, τ a = some t → τ' a = some t
  new : ∀ a t, τ' a = some t → τ a = some t ∨ H a = none
theorem ExtT.refl (H : Hp) (τ : Tags) : ExtT H τ τ := ⟨fun _ _ h => h, fun _ _ h => .inl h⟩
theorem BtT.of {τ : Tags} {T : Tg → Prop} {H H' : Hp} (s : Same H H') : BtT τ T H H' := fun a o e _ => s a o e
theorem BtT.trans {τ : Tags} {T : Tg → Prop} {H H1 H2 : Hp} (a : BtT τ T H H1) (b : BtT τ T H1 H2) : BtT τ T H H2 := fun x o e n => b x o (a x o e n) n
theorem BtT.put {τ : Tags} {T : Tg → Prop} {H : Hp} {a : Addr} {o : HO} {t : Tg} (h : τ a = some t) (ht : T t) : BtT τ T H (upd H a o) := fun x u e n => by
  have hx : x ≠ a := by
    rintro rfl
    exact n t h ht
  rw [upd_ne hx]
  exact e
theorem BtT.mono {τ : Tags} {T T' : Tg → Prop} {H H' : Hp} (b : BtT τ T H H') (h : ∀ t, T t → T' t) : BtT τ T' H H' := fun a o e n => b a o e fun t ht q => n t ht (h t q)
theorem BtT.bt {τ : Tags} {T : Tg → Prop} {H H' : Hp} (b : BtT τ T H H') : Bt (fun a => τ a ≠ none) H H' := fun a o e n => b a o e fun t ht => absurd (show τ a ≠ none by rw [ht]; exact fun z => nomatch z) n
theorem BtT.tk {τ : Tags} {T : Tg → Prop} {H H' : Hp} (b : BtT τ T H H') (w : OwnAt H τ) : Tk H H' := fun a o e tt => b a o e fun t ht => by
  obtain ⟨o', e', n⟩ := w a t ht
  rw [e] at e'
  cases e'
  exact absurd tt n
theorem BtT.get {τ : Tags} {T : Tg → Prop} {H H' : Hp} (b : BtT τ T H H') {a : Addr} {o : HO} {t : Tg} (e : H a = some o) (ht : τ a = some t) (n : ¬ T t) : H' a = some o := b a o e fun t' e' => by
  rw [ht] at e'
  cases e'
  exact n
theorem OwnAt.same {H H' : Hp} {τ : Tags} (w : OwnAt H τ) (s : Same H H') : OwnAt H' τ := fun a t e => by
  obtain ⟨o, h, n⟩ := w a t e
  exact ⟨o, s _ _ h, n⟩
theorem OwnAt.put {H : Hp} {τ : Tags} {b : Addr} {o : HO} (w : OwnAt H τ) (n : ¬ TupO o) : OwnAt (upd H b o) τ := fun a t e => by
  by_cases h : a = b
  · subst h
    exact ⟨o, upd_same, n⟩
  · obtain ⟨o', h', n'⟩ := w a t e
    exact ⟨o', by rw [upd_ne h]; exact h', n'⟩
theorem OwnAt.none {H : Hp} {τ : Tags} (w : OwnAt H τ) {a : Addr} (h : H a = none) : τ a = none := by
  cases e : τ a with
  | none => rfl
  | some t =>
    obtain ⟨o, e', _⟩ := w a t e
    rw [h] at e'
    cases e'
theorem ntI {C dx : Addr} {fs : List (Str × V)} : ¬ TupO (.ins C dx fs) := fun h => h
/-- one more owner -/
def tagUp (τ : Tags) (p : Addr) (t : Tg) : Tags := fun a => if a = p then some t else τ a
theorem tagUp_same {τ : Tags} {p : Addr} {t : Tg} : tagUp τ p t p = some t := if_pos rfl
theorem tagUp_ne {τ : Tags} {p a : Addr} {t : Tg} (h : a ≠ p) : tagUp τ p t a = τ a := if_neg h
theorem ExtT.up1 {H H' : Hp} {τ : Tags} {p : Addr} {t : Tg} (w : OwnAt H' τ) (hp' : H' p = none) (hp : H p = none) : ExtT H τ (tagUp τ p t) := by
  refine ⟨fun a u e => ?_, fun a u e => ?_⟩
  · by_cases h : a = p
    · subst h
      rw [w.none hp'] at e
      cases e
    · rw [tagUp_ne h]
      exact e
  · by_cases h : a = p
    · subst h
      exact .inr hp
    · rw [tagUp_ne h] at e
      exact .inl e
theorem OwnAt.up1 {H : Hp} {τ : Tags} {p : Addr} {t : Tg} {o : HO} (w : OwnAt H τ) (e : H p = some o) (n : ¬ TupO o) : OwnAt H (tagUp τ p t) := fun a u h => by
  by_cases z : a = p
  · subst z
    exact ⟨o, e, n⟩
  · rw [tagUp_ne z] at h
    exact w a u h
section
variable (K : PySem.W.Frag)
/-- a hand's half, elder, nothing before -/
structure HalfAt (H : Hp) (τ : Tags) (h : Str) (a : Addr) (s : HSt) : Prop where
  tag : τ a = some (3, h)
  rest : ∃ dx bx nx kvs ns, H a = some (.ins (C_Half K) dx (A_Half (.int 1) (.int (s.line : Nat)) (.ref bx) (.ref nx) (.int (s.done : Nat)) .non)) ∧ τ bx = some (4, h) ∧ H bx = some (.dK kvs) ∧ KvI H kvs s.env ∧ τ nx = some (5, h) ∧ H nx = some (.lst ns) ∧ ImL H ns s.notes
structure HandsAt (H : Hp) (τ : Tags) (hk : List (Key × V)) (hs : List Hn) (f : Str → HSt) : Prop where
  keys : hk.map (·.1) = hs.map fun hd => Sum.inr hd.name
  half : ∀ hd ∈ hs, ∃ a, valV hk (Sum.inr hd.name) = some (.ref a) ∧ HalfAt K H τ hd.name a (f hd.name)
def ltD (d : Da) : Da := .tup [.int 1, d]
structure RowsAt (g : Da → Da) (H : Hp) (τ : Tags) (rk : List (Key × V)) (cs : List Ch) (f : Str → List Da) : Prop where
  keys : rk.map (·.1) = cs.map fun c => Sum.inr c.name
  row : ∀ c ∈ cs, ∃ a xs, valV rk (Sum.inr c.name) = some (.ref a) ∧ τ a = some (6, c.name) ∧ H a = some (.lst xs) ∧ ImL H xs ((f c.name).map g)
structure MixedAt (H : Hp) (τ : Tags) (mp ov : Addr) (m : Mk0) (st : MSt) : Prop where
  own : OwnAt H τ
  obj : ∃ dx hp rp hk rk, H mp = some (.ins (C_Mixed K) dx (A_Mixed (.ref ov) (.ref hp) (.ref rp))) ∧ τ mp = some (tgI 0) ∧ τ hp = some (tgI 1) ∧ H hp = some (.dK hk) ∧ HandsAt K H τ hk m.hands st.hand ∧ τ rp = some (tgI 2) ∧ H rp = some (.dK rk) ∧ RowsAt ltD H τ rk m.chans st.row
end
section
variable {K : PySem.W.Frag} {H H' : Hp} {τ τ' : Tags} {T : Tg → Prop}
theorem HalfAt.keep {h : Str} {a : Addr} {s : HSt} (b : BtT τ T H H') (k : Tk H H') (n3 : ¬ T (3, h)) (n4 : ¬ T (4, h)) (n5 : ¬ T (5, h)) (x : HalfAt K H τ h a s) : HalfAt K H' τ h a s := by
  obtain ⟨t, dx, bx, nx, kvs, ns, e1, e2, e3, e4, e5, e6, e7⟩ := x
  exact ⟨t, dx, bx, nx, kvs, ns, b.get e1 t n3, e2, b.get e3 e2 n4, e4.mono k, e5, b.get e6 e5 n5, e7.mono k⟩
theorem HalfAt.tags {h : Str} {a : Addr} {s : HSt} (u : ∀ a t, τ a = some t → τ' a = some t) (x : HalfAt K H τ h a s) : HalfAt K H τ' h a s := by
  obtain ⟨t, dx, bx, nx, kvs, ns, e1, e2, e3, e4, e5, e6, e7⟩ := x
  exact ⟨u _ _ t, dx, bx, nx, kvs, ns, e1, u _ _ e2, e3, e4, u _ _ e5, e6, e7⟩
theorem HandsAt.tags {hk : List (Key × V)} {hs : List Hn} {f : Str → HSt} (u : ∀ a t, τ a = some t → τ' a = some t) (x : HandsAt K H τ hk hs f) : HandsAt K H τ' hk hs f :=
  ⟨x.keys, fun hd hm => by obtain ⟨a, e1, e2⟩ := x.half hd hm; exact ⟨a, e1, e2.tags u⟩⟩
theorem RowsAt.tags {g : Da → Da} {rk : List (Key × V)} {cs : List Ch} {f : Str → List Da} (u : ∀ a t, τ a = some t → τ' a = some t) (x : RowsAt g H τ rk cs f) : RowsAt g H τ' rk cs f :=
  ⟨x.keys, fun c hc => by obtain ⟨a, xs, e1, e2, e3, e4⟩ := x.row c hc; exact ⟨a, xs, e1, u _ _ e2, e3, e4⟩⟩
/-- one hand changed -/
theorem HandsAt.upd {hk : List (Key × V)} {hs : List Hn} {st : MSt} {h : Str} {s : HSt} (b : BtT τ T H H') (k : Tk H H') (n : ∀ g i, g ≠ h → 3 ≤ i → i ≤ 5 → ¬ T (i, g)) (x : HandsAt K H τ hk hs st.hand)
    (hh : ∀ a, valV hk (Sum.inr h) = some (.ref a) → HalfAt K H' τ h a s) : HandsAt K H' τ hk hs (st.at h s).hand :=
  ⟨x.keys, fun hd hm => by
    obtain ⟨a, e1, e2⟩ := x.half hd hm
    by_cases e : hd.name = h
    · subst e
      rw [MSt.at_same]
      exact ⟨a, e1, hh a e1⟩
    · rw [MSt.at_ne e]
      exact ⟨a, e1, e2.keep b k (n _ 3 e (by decide) (by decide)) (n _ 4 e (by decide) (by decide)) (n _ 5 e (by decide) (by decide))⟩⟩
theorem HandsAt.keep {hk : List (Key × V)} {hs : List Hn} {f : Str → HSt} (b : BtT τ T H H') (k : Tk H H') (n : ∀ g i, 3 ≤ i → i ≤ 5 → ¬ T (i, g)) (x : HandsAt K H τ hk hs f) : HandsAt K H' τ hk hs f :=
  ⟨x.keys, fun hd hm => by
    obtain ⟨a, e1, e2⟩ := x.half hd hm
    exact ⟨a, e1, e2.keep b k (n _ 3 (by decide) (by decide)) (n _ 4 (by decide) (by decide)) (n _ 5 (by decide) (by decide))⟩⟩
theorem RowsAt.keep {g : Da → Da} {rk : List (Key × V)} {cs : List Ch} {f : Str → List Da} (b : BtT τ T H H') (k : Tk H H') (n : ∀ c, ¬ T (6, c)) (x : RowsAt g H τ rk cs f) : RowsAt g H' τ rk cs f :=
  ⟨x.keys, fun c hc => by
    obtain ⟨a, xs, e1, e2, e3, e4⟩ := x.row c hc
    exact ⟨a, xs, e1, e2, b.get e3 e2 (n _), e4.mono k⟩⟩
/-- one row changed -/
theorem RowsAt.upd {g : Da → Da} {rk : List (Key × V)} {cs : List Ch} {st : MSt} {c0 : Str} {l : List Da} (b : BtT τ T H H') (k : Tk H H') (n : ∀ c, c ≠ c0 → ¬ T (6, c)) (x : RowsAt g H τ rk cs st.row)
    (hh : ∀ a, valV rk (Sum.inr c0) = some (.ref a) → ∃ xs, H' a = some (.lst xs) ∧ ImL H' xs (l.map g)) : RowsAt g H' τ rk cs (st.rowAt c0 l).row :=
  ⟨x.keys, fun c hc => by
    obtain ⟨a, xs, e1, e2, e3, e4⟩ := x.row c hc
    by_cases e : c.name = c0
    · subst e
      rw [MSt.row_same]
      obtain ⟨xs', q1, q2⟩ := hh a e1
      exact ⟨a, xs', e1, e2, q1, q2⟩
    · rw [MSt.row_ne e]
      exact ⟨a, xs, e1, e2, b.get e3 e2 (n _ e), e4.mono k⟩⟩
theorem putK_keysK {kvs : List (Key × V)} {k : Key} {v : V} (h : (valV kvs k).isSome) : (putK kvs k v).map (·.1) = kvs.map (·.1) := by
  unfold putK
  rw [valV_any, if_pos h, List.map_map]
  refine List.map_congr_left fun p _ => ?_
  show (if p.1 = k then (p.1, v) else p).1 = p.1
  split <;> rfl
theorem MixedAt.same {mp ov : Addr} {m : Mk0} {st : MSt} (s : Same H H') (x : MixedAt K H τ mp ov m st) : MixedAt K H' τ mp ov m st := by
  obtain ⟨w, dx, hp, rp, hk, rk, e1, e2, e3, e4, e5, e6, e7, e8⟩ := x
  have b : BtT τ (fun _ => False) H H' := BtT.of s
  exact ⟨w.same s, dx, hp, rp, hk, rk, s _ _ e1, e2, e3, s _ _ e4, e5.keep b (Tk.of s) (fun _ _ _ _ h => h), e6, s _ _ e7, e8.keep b (Tk.of s) (fun _ h => h)⟩
/-- what others do leaves it -/
theorem MixedAt.other {mp ov : Addr} {m : Mk0} {st : MSt} {F : Addr → Prop} (s : Bt F H H') (d : ∀ a, F a → τ a = none) (k : Tk H H') (x : MixedAt K H τ mp ov m st) : MixedAt K H' τ mp ov m st := by
  obtain ⟨w, dx, hp, rp, hk, rk, e1, e2, e3, e4, e5, e6, e7, e8⟩ := x
  have g : ∀ a o t, H a = some o → τ a = some t → H' a = some o := fun a o t e ht => s a o e fun f => by rw [d a f] at ht; cases ht
  refine ⟨fun a t e => ?_, dx, hp, rp, hk, rk, g _ _ _ e1 e2, e2, e3, g _ _ _ e4 e3, ⟨e5.keys, fun hd hm => ?_⟩, e6, g _ _ _ e7 e6, ⟨e8.keys, fun c hc => ?_⟩⟩
  · obtain ⟨o, q, n⟩ := w a t e
    exact ⟨o, g _ _ _ q e, n⟩
  · obtain ⟨a, q, t, dx', bx, nx, kvs, ns, f1, f2, f3, f4, f5, f6, f7⟩ := e5.half hd hm
    exact ⟨a, q, t, dx', bx, nx, kvs, ns, g _ _ _ f1 t, f2, g _ _ _ f3 f2, f4.mono k, f5, g _ _ _ f6 f5, f7.mono k⟩
  · obtain ⟨a, xs, q1, q2, q3, q4⟩ := e8.row c hc
    exact ⟨a, xs, q1, q2, g _ _ _ q3 q2, q4.mono k⟩
end
end SwK
set_option maxHeartbeats 8000000
/-! the mixed house: a step -/
namespace SwK
open PySem PySem.Spec PyProof.Rows L2
theorem RowsAt.new {H H' : Hp} {τ τ' : Tags} {T : Tg → Prop} {g : Da → Da} {rk : List (Key × V)} {cs : List Ch} {st : MSt} {c0 : Str} {l : List Da} {p : Addr} {xs : List V} (b : BtT τ T H H') (k : Tk H H') (n : ∀ c, ¬ T (6, c)) (u : ∀ a t, τ a = some t → τ' a = some t)
    (x : RowsAt g H τ rk cs st.row) (hs : (valV rk (Sum.inr c0)).isSome) (hp : τ' p = some (6, c0)) (e : H' p = some (.lst xs)) (i : ImL H' xs (l.map g)) : RowsAt g H' τ' (putK rk (Sum.inr c0) (.ref p)) cs (st.rowAt c0 l).row :=
  ⟨(putK_keysK hs).trans x.keys, fun c hc => by
    obtain ⟨a, ys, e1, e2, e3, e4⟩ := x.row c hc
    rw [valV_put]
    by_cases z : c.name = c0
    · rw [z, if_pos rfl, MSt.row_same]
      exact ⟨p, xs, rfl, hp, e, i⟩
    · rw [if_neg (fun q => z (Sum.inr.inj q)), MSt.row_ne z]
      exact ⟨a, ys, e1, u _ _ e2, b.get e3 e2 (n _), e4.mono k⟩⟩
theorem cutV1 {x : V} {r : List V} : cutV (x :: r) (some 1) none = r := by
  have e1 : HT.sIx (x :: r).length 0 (some 1) = 1 := by
    unfold HT.sIx
    simp
  have e2 : HT.sIx (x :: r).length (x :: r).length none = r.length + 1 := rfl
  unfold cutV
  rw [e1, e2]
  show r.take (r.length + 1 - 1) = r
  rw [Nat.add_sub_cancel, List.take_length]
/-- the half of a hand, its boxes put -/
theorem at_at {st : MSt} {h : Str} {s s' : HSt} : (st.at h s).at h s' = st.at h s' := by
  show (⟨fun g => if g = h then s' else (if g = h then s else st.hand g), st.row⟩ : MSt) = ⟨fun g => if g = h then s' else st.hand g, st.row⟩
  congr 1
  funext g
  split <;> rfl
theorem at_rowAt {st : MSt} {h c : Str} {s : HSt} {l : List Da} : (st.rowAt c l).at h s = (st.at h s).rowAt c l := rfl
section
variable (K : PySem.W.Frag)
def spMakeAt : Sp := sp2 fun a b H Q => ∃ mp dx ov hp rp ha dxh l bx nx dn bf dxo f s wx px lk, a = .ref mp ∧ b = .ref ha ∧ H mp = some (.ins (C_Mixed K) dx (A_Mixed (.ref ov) hp rp)) ∧ H ha = some (.ins (C_Half K) dxh (A_Half (.int 1) l bx nx dn bf)) ∧
  H ov = some (.ins (C_Over K) dxo (A_Over f s wx px lk)) ∧ Q f H
def spSeen : Sp := sp1 fun a H Q => ∃ ha dxh mk l bx nx dn bf, a = .ref ha ∧ H ha = some (.ins (C_Half K) dxh (A_Half mk l bx nx dn bf)) ∧ Q .non (upd H ha (.ins (C_Half K) dxh (A_Half mk l bx nx dn .non)))
def spLed : Sp := sp3 fun a b c H Q => ∃ (r : Rw) (n : Nat) (i : Int), Im H a r.d ∧ b = .int (n : Nat) ∧ ((∃ e k, r = .ite e k) → c = .int i) ∧
  Q (.int ((match r with | .go k => k | .ite _ k => if i = 0 then n + 1 else k | _ => n + 1 : Nat) : Int)) H
/-- the house at mp has this half of h -/
def HandOf (H : Hp) (mp : Addr) (h : Str) (ha : Addr) : Prop := ∃ dx o hp r hk, H mp = some (.ins (C_Mixed K) dx (A_Mixed o (.ref hp) r)) ∧ H hp = some (.dK hk) ∧ valV hk (Sum.inr h) = some (.ref ha)
/-- the house, its hand, its half -/
def spTakes : Sp := sp4 fun a b c x H Q => ∃ τ m mp ov st hd ha ch y, a = .ref mp ∧ b = .ref ha ∧ c = .str ch.name ∧ x = .str y ∧ MixedAt K H τ mp ov m st ∧ hd ∈ m.hands ∧ ch ∈ m.chans ∧ HalfAt K H τ hd.name ha (st.hand hd.name) ∧
  HandOf K H mp hd.name ha ∧ (st.hand hd.name).env.length ≤ 1000 ∧ (st.row ch.name).length ≤ 1000 ∧ m.chans.length ≤ 1000 ∧
  (st.row ch.name = [] → ∀ H', Same H H' → Q (.bl false) H') ∧
  (∀ d r, st.row ch.name = d :: r → ∀ H' τ', ExtT H τ τ' → Bt (fun a => τ a ≠ none) H H' → HalfAt K H' τ' hd.name ha ⟨(st.hand hd.name).line, putE (st.hand hd.name).env y d, (st.hand hd.name).notes, (st.hand hd.name).done⟩ → HandOf K H' mp hd.name ha → (∃ o, H' ha = some o ∧ H ha = some o) →
    MixedAt K H' τ' mp ov m ((st.at hd.name ⟨(st.hand hd.name).line, putE (st.hand hd.name).env y d, (st.hand hd.name).notes, (st.hand hd.name).done⟩).rowAt ch.name r) → Q (.bl true) H')
end
section
variable {P : Program} {w : World} {K : PySem.W.Frag} {mg : Str → Option Value} {base : Heap}
/- Mixed.make_at: slots 0 self 1 half -/
theorem sc_Mixed_make_at : FnScope ["self", "half"] ["self", "half"] (defScope s_Mixed_make_at) := ⟨rfl, rfl, rfl, by decide +kernel, rfl, by decide +kernel, by decide +kernel⟩
theorem ok_Mixed_make_at (T : Txt K mg) : C8.Met P w K mg base 1 (C_Mixed K) "make_at" (spMakeAt K) [] := by
  refine mkMet (f_Mixed_make_at T) (cl_Mixed T) (me_Mixed_make_at T) sc_Mixed_make_at (fun _ _ _ _ _ _ us hl => match us, hl with | [_, _], _ => rfl) (fun vs H Q E h => ?_) (fun vs H Q E h => ?_)
  · obtain ⟨a, b, rfl, _⟩ := sp2_len h
    rfl
  obtain ⟨a, b, rfl, h⟩ := sp2_len h
  intro cdv A outer s E hr
  have hu := hu_of hr
  obtain ⟨mp, dx, ov, hp, rp, ha, dxh, l, bx, nx, dn, bf, dxo, f, s, wx, px, lk, rfl, rfl, h1, h2, h3, k1⟩ := h
  refine ⟨_, (pss_cons (ps_if (pt_cmpR op_eq (pe_fld (pv 1) rfl) (C8.pe_gc rfl (k_ELDER T)) (nomark _)) (pss_one (ps_ret (pe_fld (pe_fld (pv 0) rfl) rfl))) pss_nil)
        (pss_one (ps_ret (pe_fld (pe_fld (pv 0) rfl) rfl)))), ?_⟩
  refine ⟨_, rfl, ha, _, dxh, _, _, rfl, h2, cl_Half T, na_Half_make T, l_Half_make, rfl, _, rfl, iteT ?_⟩
  exact ⟨_, rfl, mp, _, dx, _, _, rfl, h1, cl_Mixed T, na_Mixed_over T, l_Mixed_over, ov, _, dxo, _, _, rfl, h3, cl_Over T, na_Over_first T, l_Over_first, k1⟩
/- Half.seen: slots 0 self -/
theorem sc_Half_seen : FnScope ["self"] ["self"] (defScope s_Half_seen) := ⟨rfl, rfl, rfl, by decide +kernel, rfl, by decide +kernel, by decide +kernel⟩
theorem ok_Half_seen (T : Txt K mg) : C8.Met P w K mg base 1 (C_Half K) "seen" (spSeen K) [] := by
  refine mkMet (f_Half_seen T) (cl_Half T) (me_Half_seen T) sc_Half_seen (fun _ _ _ _ _ _ us hl => match us, hl with | [_], _ => rfl) (fun vs H Q E h => ?_) (fun vs H Q E h => ?_)
  · obtain ⟨a, rfl, _⟩ := sp1_len h
    rfl
  obtain ⟨a, rfl, h⟩ := sp1_len h
  intro cdv A outer s E hr
  have hu := hu_of hr
  obtain ⟨ha, dxh, mk, l, bx, nx, dn, bf, rfl, h1, k1⟩ := h
  refine ⟨_, (pss_one (ps_fld (pv 0) pe_non rfl)), ?_⟩
  refine ⟨_, rfl, ha, _, dxh, _, rfl, h1, cl_Half T, na_Half_before T, len_Half, ?_⟩
  rw [p_Half_before]
  exact k1
/- led_to: slots 0 row 1 line 2 value -/
theorem sc_led_to : FnScope ["row", "line", "value"] ["row", "line", "value"] (defScope s_led_to) := ⟨rfl, rfl, rfl, by decide +kernel, rfl, by decide +kernel, by decide +kernel⟩
theorem ok_led_to (T : Txt K mg) : C8.Cal P w K mg base 1 "led_to" spLed [] := by
  refine mkCal (f_led_to T) (g_led_to T) sc_led_to (fun _ _ _ _ _ _ us hl => match us, hl with | [_, _, _], _ => rfl) (fun vs H Q E h => ?_) (fun vs H Q E h => ?_)
  · obtain ⟨a, b, c, rfl, _⟩ := sp3_len h
    rfl
  obtain ⟨a, b, c, rfl, h⟩ := sp3_len h
  intro cdv A outer s E hr
  have hu := hu_of hr
  obtain ⟨r, n, i, h1, rfl, hc, k1⟩ := h
  obtain ⟨p, xs, rfl, ep⟩ := rw_head h1
  refine ⟨_, (pss_cons (ps_if (pt_cmpR op_eq (pe_ix ix_tup (pv 0) pe_int (fun _ _ => rfl)) pe_str (nomark _)) (pss_one (ps_ret (pe_ix ix_tup (pv 0) pe_int (fun _ _ => rfl)))) pss_nil)
        (pss_cons (ps_if (PW.pt (pw_and (pt_cmpR op_eq (pe_ix ix_tup (pv 0) pe_int (fun _ _ => rfl)) pe_str (nomark _)) (pw_and1 (pt_cmpR op_ne (pv 2) pe_int (nomark _))))) (pss_one (ps_ret (pe_ix ix_tup (pv 0) pe_int (fun _ _ => rfl)))) pss_nil)
        (pss_one (ps_ret (pe_op op_add (pv 1) pe_int))))), ?_⟩
  refine ⟨_, rfl, p, _, _, _, rfl, rfl, SqT.of ep, at0, rfl, _, rfl, ?_⟩
  cases r with
  | go k =>
    obtain ⟨p', x1, x2, e, ep', i1, i2⟩ := im2 h1
    cases e
    cases im_int i2
    refine ifTD ?_
    exact ⟨_, rfl, p, _, _, _, rfl, rfl, SqT.of ep', at1, k1⟩
  | ite e k =>
    obtain ⟨p', x1, x2, x3, e, ep', i1, i2, i3⟩ := im3 h1
    cases e
    cases im_int i3
    cases hc ⟨_, _, rfl⟩
    refine ifFD (show ¬ ("if" : Str) = "go" by decide +kernel) ?_
    refine ⟨_, rfl, p, _, _, _, rfl, rfl, SqT.of ep, at0, rfl, _, rfl, ifTD ⟨_, rfl, rfl, _, rfl, ?_⟩⟩
    by_cases hi : i = 0
    · subst hi
      rw [show decide (V.int 0 = V.int 0) = true from decide_eq_true rfl]
      refine iteF ?_
      exact ⟨_, rfl, _, _, rfl, rfl, k1⟩
    · rw [decide_eq_false (fun z => hi (V.int.inj z))]
      refine iteT ?_
      have k2 : Q (.int (k : Nat)) H := by
        have := k1
        simp only [if_neg hi] at this
        exact this
      exact ⟨_, rfl, p, _, _, _, rfl, rfl, SqT.of ep', at2, k2⟩
  | set x e => exact ifFD (show ¬ ("set" : Str) = "go" by decide +kernel) ⟨_, rfl, p, _, _, _, rfl, rfl, SqT.of ep, at0, rfl, _, rfl, ifFD (show ¬ ("set" : Str) = "if" by decide +kernel) (iteF ⟨_, rfl, _, _, rfl, rfl, k1⟩)⟩
  | send x e => exact ifFD (show ¬ ("send" : Str) = "go" by decide +kernel) ⟨_, rfl, p, _, _, _, rfl, rfl, SqT.of ep, at0, rfl, _, rfl, ifFD (show ¬ ("send" : Str) = "if" by decide +kernel) (iteF ⟨_, rfl, _, _, rfl, rfl, k1⟩)⟩
  | take l c x => exact ifFD (show ¬ ("take" : Str) = "go" by decide +kernel) ⟨_, rfl, p, _, _, _, rfl, rfl, SqT.of ep, at0, rfl, _, rfl, ifFD (show ¬ ("take" : Str) = "if" by decide +kernel) (iteF ⟨_, rfl, _, _, rfl, rfl, k1⟩)⟩
  | tell e => exact ifFD (show ¬ ("tell" : Str) = "go" by decide +kernel) ⟨_, rfl, p, _, _, _, rfl, rfl, SqT.of ep, at0, rfl, _, rfl, ifFD (show ¬ ("tell" : Str) = "if" by decide +kernel) (iteF ⟨_, rfl, _, _, rfl, rfl, k1⟩)⟩
  | fin => exact ifFD (show ¬ ("end" : Str) = "go" by decide +kernel) ⟨_, rfl, p, _, _, _, rfl, rfl, SqT.of ep, at0, rfl, _, rfl, ifFD (show ¬ ("end" : Str) = "if" by decide +kernel) (iteF ⟨_, rfl, _, _, rfl, rfl, k1⟩)⟩
/- Mixed.takes: slots 0 self 1 half 2 c 3 x 4 make 5 value -/
theorem sc_Mixed_takes : FnScope ["self", "half", "c", "x", "make", "value"] ["self", "half", "c", "x"] (defScope s_Mixed_takes) := ⟨rfl, rfl, rfl, by decide +kernel, rfl, by decide +kernel, by decide +kernel⟩
theorem ok_Mixed_takes (T : Txt K mg) : C8.Met P w K mg base 1 (C_Mixed K) "takes" (spTakes K) [] := by
  refine mkMet (f_Mixed_takes T) (cl_Mixed T) (me_Mixed_takes T) sc_Mixed_takes (fun _ _ _ _ _ _ us hl => match us, hl with | [_, _, _, _], _ => rfl) (fun vs H Q E h => ?_) (fun vs H Q E h => ?_)
  · obtain ⟨a, b, c, d, rfl, _⟩ := sp4_len h
    rfl
  obtain ⟨a, b, c, d, rfl, h⟩ := sp4_len h
  intro cdv A outer s E hr
  have hu := hu_of hr
  obtain ⟨τ, m, mp, ov, st, hd, ha, ch, y, rfl, rfl, rfl, rfl, hM, hhd, hch, hH, hloc, hen, hrl, hcl, k1, k2⟩ := h
  obtain ⟨w0, dx, hp, rp, hk, rk, e1, e2, e3, e4, e5, e6, e7, e8⟩ := hM
  have hval : valV hk (Sum.inr hd.name) = some (.ref ha) := by
    obtain ⟨dx', o', hp', r', hk', q1, q2, q3⟩ := hloc
    rw [e1] at q1
    cases q1
    rw [e4] at q2
    cases q2
    exact q3
  obtain ⟨ra, xs, v1, v2, v3, v4⟩ := e8.row ch hch
  obtain ⟨t, dxh, bx, nx, kvs, ns, f1, f2, f3, f4, f5, f6, f7⟩ := hH
  have cM := cl_Mixed T
  have cH := cl_Half T
  refine ⟨_, (pss_cons (ps_if (pt_cmpR (op_eqNil hr.units) (pe_dget hu (pe_fld (pv 0) rfl) (pv 2) (fun _ _ => rfl)) (pe_lst pa_nil) (nomark _)) (pss_one (ps_ret pe_bl)) pss_nil)
        (pss_cons (ps_asg (pe_ix ix_list (pe_dget hu (pe_fld (pv 0) rfl) (pv 2) (fun _ _ => rfl)) pe_int (fun _ _ => rfl)) (pg_tup rfl (pgs_cons (pg_name (i := 4) sc_Mixed_takes.nd rfl (by first | exact .inl rfl | exact .inr rfl)) (pgs_cons (pg_name (i := 5) sc_Mixed_takes.nd rfl (by first | exact .inl rfl | exact .inr rfl)) pgs_nil))))
        (pss_cons (ps_if (pt_cmpR op_gt (pv 4) (pe_fld (pv 1) rfl) (nomark _)) pss_never pss_nil)
        (pss_cons (ps_if (pt_cmpR op_notN (pe_fld (pv 1) rfl) pe_non (nomark _)) pss_never pss_nil)
        (pss_cons (ps_dput hu (pe_fld (pv 0) rfl) (pv 2) (pe_slice sl_list (pe_dget hu (pe_fld (pv 0) rfl) (pv 2) (fun _ _ => rfl)) (po_some pe_int) po_none) rfl)
        (pss_cons (ps_if (pt_cmpR op_lt (pv 4) (pe_fld (pv 1) rfl) (nomark _)) pss_never pss_nil)
        (pss_cons (ps_dput hu (pe_fld (pv 1) rfl) (pv 3) (pv 5) rfl)
        (pss_one (ps_ret pe_bl))))))))), ?_⟩
  refine ⟨_, rfl, mp, _, dx, _, _, rfl, e1, cM, na_Mixed_rows T, l_Mixed_rows, _, rfl, rp, _, rfl, v1 ▸ dget_s (rd_of e7), le_size (by show 0 ≤ 100000; decide), fun lq hlq => ?_⟩
  have s1 : Same H (upd H lq (.lst [])) := same_new hlq
  refine ⟨ra, lq, xs, rfl, rfl, SqL.of (s1 _ _ v3), SqL.of upd_same, _, rfl, ?_⟩
  cases hr : st.row ch.name with
  | nil =>
    rw [hr] at v4
    cases iml_nil v4
    exact iteT (k1 hr _ s1)
  | cons d r =>
    have v4' := v4
    rw [hr] at v4
    obtain ⟨x0, xr, rfl, i0, ir⟩ := iml_cons v4
    obtain ⟨ta, z1, z2, rfl, et, j1, j2⟩ := im2 i0
    cases im_int j1
    refine iteF ?_
    generalize hHq : upd H lq (.lst []) = Hq at s1 ⊢
    refine ⟨_, rfl, mp, _, dx, _, _, rfl, s1 _ _ e1, cM, na_Mixed_rows T, l_Mixed_rows, _, rfl, rp, _, rfl, v1 ▸ dget_s (rd_of (s1 _ _ e7)), ra, _, _, _, rfl, rfl, SqL.of (s1 _ _ v3), at0, ta, _, rfl, SqT.of (s1 _ _ et), rfl, _, _, rfl, _, _, rfl, rfl, ?_⟩
    refine ⟨_, rfl, _, rfl, ha, _, dxh, _, _, rfl, s1 _ _ f1, cH, na_Half_make T, l_Half_make, _, _, rfl, rfl, _, rfl, iteF ?_⟩
    refine ⟨_, rfl, ha, _, dxh, _, _, rfl, s1 _ _ f1, cH, na_Half_before T, l_Half_before, rfl, _, rfl, iteF ?_⟩
    refine ⟨_, rfl, mp, _, dx, _, _, rfl, s1 _ _ e1, cM, na_Mixed_rows T, l_Mixed_rows, _, rfl, rp, _, rfl, v1 ▸ dget_s (rd_of (s1 _ _ e7)), _, rfl, ra, _, rfl, SqL.of (s1 _ _ v3), fun p hp' => ?_⟩
    rw [cutV1]
    have s2 : Same Hq (upd Hq p (.lst xr)) := same_new hp'
    have s12 := s1.trans s2
    have hpn : H p = none := by
      cases e : H p with
      | none => rfl
      | some o => rw [s1 _ _ e] at hp'; cases hp'
    have hrk : rk.length ≤ 1000 := by
      have := congrArg List.length e8.keys
      rw [List.length_map, List.length_map] at this
      omega
    refine ⟨_, rfl, mp, _, dx, _, _, rfl, s12 _ _ e1, cM, na_Mixed_rows T, l_Mixed_rows, _, rfl, rp, _, rfl, DPut.k (k := Sum.inr ch.name) (s12 _ _ e7) (lt_size (by omega)), ?_⟩
    have nmp : mp ≠ rp := by rintro rfl; rw [e2] at e6; cases e6
    have nha : ha ≠ rp := by rintro rfl; rw [t] at e6; cases e6
    have nbx : bx ≠ rp := by rintro rfl; rw [f2] at e6; cases e6
    have np : p ≠ rp := by rintro rfl; rw [hpn] at e7; cases e7
    have npb : p ≠ bx := by rintro rfl; rw [hpn] at f3; cases f3
    have g1 : upd (upd Hq p (.lst xr)) rp (.dK (putK rk (Sum.inr ch.name) (.ref p))) ha = _ := (upd_ne nha).trans (s12 _ _ f1)
    have g3 : upd (upd Hq p (.lst xr)) rp (.dK (putK rk (Sum.inr ch.name) (.ref p))) bx = _ := (upd_ne nbx).trans (s12 _ _ f3)
    refine ⟨_, rfl, _, rfl, ha, _, dxh, _, _, rfl, g1, cH, na_Half_make T, l_Half_make, _, _, rfl, rfl, _, rfl, iteF ?_⟩
    have hkl : kvs.length ≤ 1000 := by rw [f4.length]; exact hen
    refine ⟨_, rfl, _, rfl, ha, _, dxh, _, _, rfl, g1, cH, na_Half_boxes T, l_Half_boxes, _, rfl, bx, _, rfl, DPut.k (k := Sum.inr y) g3 (lt_size (by omega)), ?_⟩
    generalize hHf : upd (upd (upd Hq p (.lst xr)) rp (.dK (putK rk (Sum.inr ch.name) (.ref p)))) bx (.dK (putK kvs (Sum.inr y) z2)) = Hf
    have b : BtT τ (fun t => t = tgI 2 ∨ t = (4, hd.name)) H Hf := by
      rw [← hHf]
      exact ((BtT.of s12).trans (BtT.put e6 (.inl rfl))).trans (BtT.put f2 (.inr rfl))
    have tk := b.tk w0
    have ext : ExtT H τ (tagUp τ p (6, ch.name)) := ExtT.up1 (w0.same s1) hp' hpn
    have ow : OwnAt Hf (tagUp τ p (6, ch.name)) := by
      have h1 : OwnAt Hf τ := by
        rw [← hHf]
        exact ((w0.same s12).put ntK).put ntK
      refine h1.up1 (o := .lst xr) ?_ ntL
      rw [← hHf, upd_ne npb, upd_ne np, upd_same]
    have hbxf : Hf bx = some (.dK (putK kvs (Sum.inr y) z2)) := by rw [← hHf, upd_same]
    have half : HalfAt K Hf τ hd.name ha ⟨(st.hand hd.name).line, putE (st.hand hd.name).env y d, (st.hand hd.name).notes, (st.hand hd.name).done⟩ := by
      refine ⟨t, dxh, bx, nx, _, ns, b.get f1 t ?_, f2, hbxf, (f4.mono tk).put (j2.mono tk), f5, b.get f6 f5 ?_, f7.mono tk⟩
      · rintro (q | q) <;> cases q
      · rintro (q | q) <;> cases q
    refine k2 d r hr Hf _ ext b.bt (half.tags ext.up) ⟨dx, _, hp, _, hk, b.get e1 e2 ?_, b.get e4 e3 ?_, hval⟩ ⟨_, b.get f1 t ?_, f1⟩ ⟨ow, dx, hp, rp, hk, putK rk (Sum.inr ch.name) (.ref p), b.get e1 e2 ?_, ext.up _ _ e2, ext.up _ _ e3, b.get e4 e3 ?_, ?_, ext.up _ _ e6, ?_, ?_⟩
    · rintro (q | q) <;> cases q
    · rintro (q | q) <;> cases q
    · rintro (q | q) <;> cases q
    · rintro (q | q) <;> cases q
    · rintro (q | q) <;> cases q
    · refine (HandsAt.upd b tk ?_ e5 fun a ea => ?_).tags ext.up
      · intro g i hg h3 h5 q
        rcases q with q | q
        · injection q with q _
          omega
        · injection q with _ q
          exact hg q
      · rw [hval] at ea
        cases ea
        exact half
    · rw [← hHf, upd_ne (Ne.symm nbx), upd_same]
    · refine RowsAt.new (st := st) b tk ?_ ext.up e8 (by rw [v1]; rfl) tagUp_same (by rw [← hHf, upd_ne npb, upd_ne np, upd_same]) (ir.mono tk)
      intro c q
      rcases q with q | q <;> cases q
end
end SwK
set_option maxHeartbeats 8000000
/-! the mixed house: a step -/
namespace SwK
open PySem PySem.Spec PyProof.Rows L2
theorem upd_id {H : Hp} {a : Addr} {o : HO} (h : H a = some o) : upd H a o = H := by
  funext z
  by_cases e : z = a
  · rw [e, upd_same, h]
  · rw [upd_ne e]
section
variable {K : PySem.W.Frag} {H H2 : Hp} {τ : Tags} {mp ov : Addr} {m : Mk0} {st : MSt} {h : Str} {ha : Addr}
theorem HandOf.mono {H' : Hp} (s : Same H H') (x : HandOf K H mp h ha) : HandOf K H' mp h ha := by
  obtain ⟨dx, o, hp, r, hk, e1, e2, e3⟩ := x
  exact ⟨dx, o, hp, r, hk, s _ _ e1, s _ _ e2, e3⟩
/-- one hand's own things changed -/
theorem mixed_half {s : HSt} (hM : MixedAt K H τ mp ov m st) (hl : HandOf K H mp h ha) (b : BtT τ (fun t => t = (3, h) ∨ t = (4, h) ∨ t = (5, h)) H H2) (w : OwnAt H2 τ) (x : HalfAt K H2 τ h ha s) : MixedAt K H2 τ mp ov m (st.at h s) := by
  obtain ⟨w0, dx, hp, rp, hk, rk, e1, e2, e3, e4, e5, e6, e7, e8⟩ := hM
  obtain ⟨dx', o', hp', r', hk', q1, q2, q3⟩ := hl
  rw [e1] at q1
  cases q1
  rw [e4] at q2
  cases q2
  have tk := b.tk w0
  have n : ∀ i g, (i < 3 ∨ 5 < i) → ¬ ((i, g) = ((3, h) : Tg) ∨ (i, g) = ((4, h) : Tg) ∨ (i, g) = ((5, h) : Tg)) := fun i g hi q => by
    rcases q with q | q | q <;> (injection q with q _; omega)
  refine ⟨w, dx, hp, rp, hk, rk, b.get e1 e2 (n _ _ (.inl (by decide))), e2, e3, b.get e4 e3 (n _ _ (.inl (by decide))), ?_, e6, b.get e7 e6 (n _ _ (.inl (by decide))), e8.keep b tk fun c => n _ _ (.inr (by decide))⟩
  refine HandsAt.upd b tk (fun g i hg _ _ q => ?_) e5 fun a ea => ?_
  · rcases q with q | q | q <;> (injection q with _ q; exact hg q)
  · rw [q3] at ea
    cases ea
    exact x
/-- one row's list changed -/
theorem mixed_row {c : Str} {l : List Da} (hM : MixedAt K H τ mp ov m st) (b : BtT τ (fun t => t = (6, c)) H H2) (w : OwnAt H2 τ)
    (x : ∀ rk rp dx hp, H mp = some (.ins (C_Mixed K) dx (A_Mixed (.ref ov) (.ref hp) (.ref rp))) → H rp = some (.dK rk) → ∀ a, valV rk (Sum.inr c) = some (.ref a) → ∃ xs, H2 a = some (.lst xs) ∧ ImL H2 xs (l.map ltD)) : MixedAt K H2 τ mp ov m (st.rowAt c l) := by
  obtain ⟨w0, dx, hp, rp, hk, rk, e1, e2, e3, e4, e5, e6, e7, e8⟩ := hM
  have tk := b.tk w0
  have n : ∀ i g, i < 6 → ¬ ((i, g) = ((6, c) : Tg)) := fun i g hi q => by
    injection q with q _
    omega
  refine ⟨w, dx, hp, rp, hk, rk, b.get e1 e2 (n _ _ (by decide)), e2, e3, b.get e4 e3 (n _ _ (by decide)), e5.keep b tk (fun g i _ h5 => n _ _ (by omega)), e6, b.get e7 e6 (n _ _ (by decide)), ?_⟩
  refine RowsAt.upd b tk (fun d hd q => ?_) e8 (x rk rp dx hp e1 e7)
  injection q with _ q
  exact hd q
end
theorem half_same {K : PySem.W.Frag} {H H' : Hp} {τ : Tags} {h : Str} {a : Addr} {s : HSt} (x : HalfAt K H τ h a s) (q : Same H H') : HalfAt K H' τ h a s := x.keep (BtT.of (T := fun _ => False) q) (Tk.of q) (fun h => h) (fun h => h) (fun h => h)
theorem tag_no {h : Str} {i : Nat} {g : Str} (hi : i < 3 := by decide) : ¬ (((i, g) : Tg) = (3, h) ∨ ((i, g) : Tg) = (4, h) ∨ ((i, g) : Tg) = (5, h)) := fun q => by
  rcases q with q | q | q <;> (injection q with q _; omega)
theorem inT {A B : Prop} {x : V} {l : List V} (e : inV x l = true) (h : A) : if (if false = true then !inV x l else inV x l) = true then A else B := by
  rw [e]
  exact h
theorem inF {A B : Prop} {x : V} {l : List V} (e : inV x l = false) (h : B) : if (if false = true then !inV x l else inV x l) = true then A else B := by
  rw [e]
  exact h
/-- where a row leads -/
def ledTo (r : Rw) (n : Nat) (i : Int) : Nat := match r with | .go k => k | .ite _ k => if i = 0 then n + 1 else k | _ => n + 1
def spMStep (K : PySem.W.Frag) : Sp := sp2 fun a b H Q => ∃ τ m mp ov dxo f s wx px lk st hd row r st', a = .ref mp ∧ b = .str hd.name ∧ MkOk m ∧ hd ∈ m.hands ∧ H ov = some (.ins (C_Over K) dxo (A_Over f s wx px lk)) ∧ Im H f (Mk0.d m) ∧ MixedAt K H τ mp ov m st ∧ WT m st ∧ Sz m 1000 st ∧
  hd.rows[(st.hand hd.name).line]? = some row ∧ AStep m st hd.name row r st' ∧ ∀ H' τ', ExtT H τ τ' → Bt (fun a => τ a ≠ none) H H' → MixedAt K H' τ' mp ov m st' → Q (.bl r) H'
section
variable {P : Program} {w : World} {K : PySem.W.Frag} {mg : Str → Option Value} {base : Heap}
/- Mixed.step: slots 0 self 1 h 2 half 3 make 4 row 5 value -/
theorem sc_Mixed_step : FnScope ["self", "h", "half", "make", "row", "value"] ["self", "h"] (defScope s_Mixed_step) := ⟨rfl, rfl, rfl, by decide +kernel, rfl, by decide +kernel, by decide +kernel⟩
theorem ok_Mixed_step (T : Txt K mg) (c_Mixed_make_at : C8.Met P w K mg base 1 (C_Mixed K) "make_at" (spMakeAt K) []) (c_hand_of : C8.Cal P w K mg base 2 "hand_of" spHandOf []) (c_Mixed_takes : C8.Met P w K mg base 1 (C_Mixed K) "takes" (spTakes K) [])
    (c_worth : C8.Cal P w K mg base 20 "worth" (spWorth 8) []) (c_Half_seen : C8.Met P w K mg base 1 (C_Half K) "seen" (spSeen K) []) (c_led_to : C8.Cal P w K mg base 1 "led_to" spLed []) : C8.Met P w K mg base 21 (C_Mixed K) "step" (spMStep K) [] := by
  refine mkMet (f_Mixed_step T) (cl_Mixed T) (me_Mixed_step T) sc_Mixed_step (fun _ _ _ _ _ _ us hl => match us, hl with | [_, _], _ => rfl) (fun vs H Q E h => ?_) (fun vs H Q E h => ?_)
  · obtain ⟨a, b, rfl, _⟩ := sp2_len h
    rfl
  obtain ⟨a, b, rfl, h⟩ := sp2_len h
  intro cdv A outer s E hr
  have hu := hu_of hr
  obtain ⟨τ, m, mp, ov, dxo, f, s0, wx, px, lk, st, hd, row, res, st', rfl, rfl, ok, hhd, eo, hf, hM, wt, sz, hrow, hstep, k1⟩ := h
  have hM0 := hM
  obtain ⟨w0, dx, hp, rp, hk, rk, e1, e2, e3, e4, e5, e6, e7, e8⟩ := hM
  obtain ⟨ha, hval, hH⟩ := e5.half hd hhd
  have hloc : HandOf K H mp hd.name ha := ⟨dx, _, hp, _, hk, e1, e4, hval⟩
  have hH0 := hH
  obtain ⟨t, dxh, bx, nx, kvs, ns, f1, f2, f3, f4, f5, f6, f7⟩ := hH
  have cM := cl_Mixed T
  have cH := cl_Half T
  have hlook := lookH_of ok.hn hhd
  obtain ⟨fq, x1, x2, x3, rfl, ef, n1, n2, n3⟩ := im3 hf
  have hdk := ok.hands hd hhd
  have henv := wt.env hd hhd
  have hel : (st.hand hd.name).env.length ≤ 1000 := by rw [henv.len]; have := hdk.few; omega
  have rok := hdk.rows row (List.mem_of_getElem? hrow)
  -- how every step ends
  have fin : ∀ (H1 : Hp) (τ1 : Tags) (st1 : MSt) (dx2 : Addr) (p2 : Addr × Addr), ExtT H τ τ1 → Bt (fun a => τ a ≠ none) H H1 → MixedAt K H1 τ1 mp ov m st1 → HalfAt K H1 τ1 hd.name ha (st1.hand hd.name) → HandOf K H1 mp hd.name ha →
      H1 ha = some (.ins (C_Half K) dx2 (A_Half (.int 1) (.int ((st1.hand hd.name).line : Nat)) (.ref p2.1) (.ref p2.2) (.int ((st1.hand hd.name).done : Nat)) .non)) →
      ∀ n : Nat, st' = st1.at hd.name ⟨n, (st1.hand hd.name).env, (st1.hand hd.name).notes, (st1.hand hd.name).done + 1⟩ → res = true →
      Q (.bl true) (upd H1 ha (.ins (C_Half K) dx2 (A_Half (.int 1) (.int (n : Nat)) (.ref p2.1) (.ref p2.2) (.int (((st1.hand hd.name).done : Nat) + 1)) .non))) := by
    intro H1 τ1 st1 dx2 p2 ext b1 m1 h1 hl1 g1 n est er
    subst est er
    obtain ⟨t', dx3, bx3, nx3, kvs3, ns3, u1, u2, u3, u4, u5, u6, u7⟩ := h1
    rw [g1] at u1
    injection u1 with u1
    injection u1 with _ u1 u1'
    subst u1
    injection u1' with _ u1'
    injection u1' with _ u1'
    injection u1' with q1 u1'
    injection q1 with _ q1
    injection q1 with q1
    injection u1' with q2 u1'
    injection q2 with _ q2
    injection q2 with q2
    subst q1 q2
    have b2 : BtT τ1 (fun t => t = (3, hd.name) ∨ t = (4, hd.name) ∨ t = (5, hd.name)) H1 (upd H1 ha (.ins (C_Half K) dx2 (A_Half (.int 1) (.int (n : Nat)) (.ref p2.1) (.ref p2.2) (.int (((st1.hand hd.name).done : Nat) + 1)) .non))) := BtT.put t' (.inl rfl)
    have tk := b2.tk m1.own
    have nb : p2.1 ≠ ha := by intro z; rw [z, t'] at u2; cases u2
    have nn : p2.2 ≠ ha := by intro z; rw [z, t'] at u5; cases u5
    refine k1 _ τ1 ext (b1.trans ?_) (mixed_half m1 hl1 b2 (m1.own.put ntI) ⟨t', dx2, p2.1, p2.2, kvs3, ns3, upd_same, u2, (upd_ne nb).trans u3, u4.mono tk, u5, (upd_ne nn).trans u6, u7.mono tk⟩)
    intro a o e na
    rw [upd_ne]
    · exact e
    · rintro rfl
      exact na (show τ a ≠ none by rw [t]; exact fun z => nomatch z)
  refine ⟨_, (pss_cons (ps_set (i := 2) sc_Mixed_step.nd rfl (by first | exact .inl rfl | exact .inr rfl) (pe_dget hu (pe_fld (pv 0) rfl) (pv 1) (fun _ _ => rfl)))
        (pss_cons (ps_set (i := 3) sc_Mixed_step.nd rfl (by first | exact .inl rfl | exact .inr rfl) (C8.pe_mt c_Mixed_make_at hr (by omega) (pv 0) (pa_cons (pv 2) pa_nil)))
        (pss_cons (ps_set (i := 4) sc_Mixed_step.nd rfl (by first | exact .inl rfl | exact .inr rfl) (pe_ix ix_tup (pe_ix ix_tup (C8.pe_c c_hand_of hr (by omega) rfl (pa_cons (pv 3) (pa_cons (pv 1) pa_nil))) pe_int (fun _ _ => rfl)) (pe_fld (pv 2) rfl) (fun _ _ => rfl)))
        (pss_cons (ps_set (i := 5) sc_Mixed_step.nd rfl (by first | exact .inl rfl | exact .inr rfl) pe_int)
        (pss_cons (ps_if (PW.pt (pw_or (pt_cmpR op_eq (pe_ix ix_tup (pv 4) pe_int (fun _ _ => rfl)) pe_str (nomark _)) (pw_or1 (PW.pt (pw_and (pt_cmpR op_eq (pe_ix ix_tup (pv 4) pe_int (fun _ _ => rfl)) pe_str (nomark _)) (pw_and1 (pt_not (pt_val (C8.pe_mt c_Mixed_takes hr (by omega) (pv 0) (pa_cons (pv 2) (pa_cons (pe_ix ix_tup (pv 4) pe_int (fun _ _ => rfl)) (pa_cons (pe_ix ix_tup (pv 4) pe_int (fun _ _ => rfl)) pa_nil)))))))))))) (pss_one (ps_ret pe_bl)) pss_nil)
        (pss_cons (ps_if (pt_cmpR op_in_seq (pe_ix ix_tup (pv 4) pe_int (fun _ _ => rfl)) (pe_tup (pa_cons pe_str (pa_cons pe_str pa_nil))) (by rfl)) (pss_one (ps_set (i := 5) sc_Mixed_step.nd rfl (by first | exact .inl rfl | exact .inr rfl) (C8.pe_c c_worth hr (by omega) rfl (pa_cons (pe_ix ix_tup (pv 3) pe_int (fun _ _ => rfl)) (pa_cons (pe_ix ix_tup (pv 4) pe_int (fun _ _ => rfl)) (pa_cons (pe_fld (pv 2) rfl) pa_nil)))))) (pss_one (ps_if (pt_cmpR op_in_seq (pe_ix ix_tup (pv 4) pe_int (fun _ _ => rfl)) (pe_tup (pa_cons pe_str (pa_cons pe_str pa_nil))) (by rfl)) (pss_one (ps_set (i := 5) sc_Mixed_step.nd rfl (by first | exact .inl rfl | exact .inr rfl) (C8.pe_c c_worth hr (by omega) rfl (pa_cons (pe_ix ix_tup (pv 3) pe_int (fun _ _ => rfl)) (pa_cons (pe_ix ix_tup (pv 4) pe_int (fun _ _ => rfl)) (pa_cons (pe_fld (pv 2) rfl) pa_nil)))))) pss_nil)))
        (pss_cons (ps_if (pt_cmpR op_eq (pe_ix ix_tup (pv 4) pe_int (fun _ _ => rfl)) pe_str (nomark _)) (pss_one (ps_dput hu (pe_fld (pv 2) rfl) (pe_ix ix_tup (pv 4) pe_int (fun _ _ => rfl)) (pv 5) rfl)) (pss_one (ps_if (pt_cmpR op_eq (pe_ix ix_tup (pv 4) pe_int (fun _ _ => rfl)) pe_str (nomark _)) (pss_cons (ps_expr (pe_bm PySem.F.plainAttrs_list PySem.F.slot_list_append PySem.F.type_list_append mt_append (pe_dget hu (pe_fld (pv 0) rfl) (pe_ix ix_tup (pv 4) pe_int (fun _ _ => rfl)) (fun _ _ => rfl)) (pa_cons (pe_tup (pa_cons (pe_fld (pv 2) rfl) (pa_cons (pv 5) pa_nil))) pa_nil)))
        (pss_one (ps_expr (C8.pe_mt0 c_Half_seen hr (by omega) (pv 2))))) (pss_one (ps_if (pt_cmpR op_eq (pe_ix ix_tup (pv 4) pe_int (fun _ _ => rfl)) pe_str (nomark _)) (pss_cons (ps_expr (pe_bm PySem.F.plainAttrs_list PySem.F.slot_list_append PySem.F.type_list_append mt_append (pe_fld (pv 2) rfl) (pa_cons (pv 5) pa_nil)))
        (pss_one (ps_expr (C8.pe_mt0 c_Half_seen hr (by omega) (pv 2))))) pss_nil)))))
        (pss_cons (ps_fld (pv 2) (C8.pe_c c_led_to hr (by omega) rfl (pa_cons (pv 4) (pa_cons (pe_fld (pv 2) rfl) (pa_cons (pv 5) pa_nil)))) rfl)
        (pss_cons (ps_fldaug (pv 2) pe_int in_add)
        (pss_one (ps_ret pe_bl))))))))))), ?_⟩
  refine ⟨_, rfl, mp, _, dx, _, _, rfl, e1, cM, na_Mixed_hands T, l_Mixed_hands, _, rfl, hp, _, rfl, hval ▸ dget_s (rd_of e4), ?_⟩
  refine ⟨_, rfl, mp, dx, _, rfl, e1, n_Mixed_make_at, _, rfl, mp, dx, ov, _, _, ha, dxh, _, _, _, _, _, dxo, _, _, _, _, _, rfl, rfl, e1, f1, eo, ?_⟩
  refine ⟨_, rfl, _, rfl, m, hd.name, hd, hf, rfl, hlook, fun v iv => ?_⟩
  obtain ⟨hq, y1, y2, y3, rfl, eh, i1, i2, i3⟩ := im3 iv
  obtain ⟨rq, rxs, rfl, er, ir⟩ := im_tup i3
  obtain ⟨rv, hrv, irv⟩ := ir.get (j := (st.hand hd.name).line) (d := row.d) (by rw [List.getElem?_map, hrow]; rfl)
  obtain ⟨p, pxs, rfl, ep⟩ := rw_head irv
  refine ⟨hq, _, _, _, rfl, rfl, SqT.of eh, at2, _, rfl, ha, _, dxh, _, _, rfl, f1, cH, na_Half_line T, l_Half_line, rq, _, _, _, rfl, rfl, SqT.of er, atI_nat hrv, ?_⟩
  refine ⟨_, rfl, p, _, _, _, rfl, rfl, SqT.of ep, at0, rfl, _, rfl, ?_⟩
  cases row with
  | fin =>
    cases hstep
    exact ifTD (k1 _ τ (ExtT.refl H τ) (fun a o e _ => e) hM0)
  | go k =>
    cases hstep
    refine ifFD (show ¬ ("go" : Str) = "end" by decide +kernel) ⟨_, rfl, p, _, _, _, rfl, rfl, SqT.of ep, at0, rfl, _, rfl, ifFD (show ¬ ("go" : Str) = "take" by decide +kernel) (iteF ?_)⟩
    refine ⟨_, rfl, p, _, _, _, rfl, rfl, SqT.of ep, at0, le_size (by show 2 ≤ 100000; decide), fun tq1 htq1 => ?_⟩
    refine ⟨tq1, _, rfl, .inr (SqT.of upd_same), rfl, rfl, _, rfl, ?_⟩
    have sq1 : Same H (upd H tq1 (.tup [.str "set", .str "send"])) := same_new htq1
    generalize upd H tq1 (.tup [.str "set", .str "send"]) = Ha at sq1 ⊢
    refine inF (show inV (.str ("go" : Str)) [.str "set", .str "send"] = false by decide +kernel) ?_
    refine ⟨_, rfl, p, _, _, _, rfl, rfl, SqT.of (sq1 _ _ ep), at0, le_size (by show 2 ≤ 100000; decide), fun tq2 htq2 => ?_⟩
    refine ⟨tq2, _, rfl, .inr (SqT.of upd_same), rfl, rfl, _, rfl, ?_⟩
    have sq2 : Same H (upd Ha tq2 (.tup [.str "tell", .str "if"])) := sq1.trans (same_new htq2)
    generalize upd Ha tq2 (.tup [.str "tell", .str "if"]) = Hb at sq2 ⊢
    refine inF (show inV (.str ("go" : Str)) [.str "tell", .str "if"] = false by decide +kernel) ?_
    refine ⟨_, rfl, p, _, _, _, rfl, rfl, SqT.of (sq2 _ _ ep), at0, rfl, _, rfl, ifFD (show ¬ ("go" : Str) = "set" by decide +kernel) ?_⟩
    refine ⟨_, rfl, p, _, _, _, rfl, rfl, SqT.of (sq2 _ _ ep), at0, rfl, _, rfl, ifFD (show ¬ ("go" : Str) = "send" by decide +kernel) ?_⟩
    refine ⟨_, rfl, p, _, _, _, rfl, rfl, SqT.of (sq2 _ _ ep), at0, rfl, _, rfl, ifFD (show ¬ ("go" : Str) = "tell" by decide +kernel) ?_⟩
    refine ⟨_, rfl, _, rfl, ha, _, dxh, _, _, rfl, (sq2 _ _ f1), cH, na_Half_line T, l_Half_line, _, rfl, Rw.go k, (st.hand hd.name).line, 0, (irv.mono (Tk.of sq2)), rfl, (fun z => by obtain ⟨_, _, z⟩ := z; cases z), ?_⟩
    refine ⟨_, rfl, ha, _, dxh, _, rfl, (sq2 _ _ f1), cH, na_Half_line T, len_Half, ?_⟩
    rw [p_Half_line]
    refine ⟨_, rfl, ha, _, dxh, _, _, rfl, upd_same, cH, na_Half_tally T, l_Half_tally, _, _, rfl, rfl, dxh, _, upd_same, len_Half, ?_⟩
    rw [p_Half_tally, upd_upd]
    exact fin _ _ st dxh (bx, nx) (ExtT.refl H τ) (BtT.of (T := fun _ => False) sq2).bt (hM0.same sq2) (half_same hH0 sq2) (hloc.mono sq2) (sq2 _ _ f1) k rfl rfl
  | ite e k =>
    cases hstep with
    | ite hev =>
    rename_i i
    obtain ⟨p', z1, z2, z3, zz, ep', r1, nee, r3⟩ := im3 irv
    cases zz
    refine ifFD (show ¬ ("if" : Str) = "end" by decide +kernel) ⟨_, rfl, p, _, _, _, rfl, rfl, SqT.of ep, at0, rfl, _, rfl, ifFD (show ¬ ("if" : Str) = "take" by decide +kernel) (iteF ?_)⟩
    refine ⟨_, rfl, p, _, _, _, rfl, rfl, SqT.of ep, at0, le_size (by show 2 ≤ 100000; decide), fun tq1 htq1 => ?_⟩
    refine ⟨tq1, _, rfl, .inr (SqT.of upd_same), rfl, rfl, _, rfl, ?_⟩
    have sq1 : Same H (upd H tq1 (.tup [.str "set", .str "send"])) := same_new htq1
    generalize upd H tq1 (.tup [.str "set", .str "send"]) = Ha at sq1 ⊢
    refine inF (show inV (.str ("if" : Str)) [.str "set", .str "send"] = false by decide +kernel) ?_
    refine ⟨_, rfl, p, _, _, _, rfl, rfl, SqT.of (sq1 _ _ ep), at0, le_size (by show 2 ≤ 100000; decide), fun tq2 htq2 => ?_⟩
    refine ⟨tq2, _, rfl, .inr (SqT.of upd_same), rfl, rfl, _, rfl, ?_⟩
    have sq2 : Same H (upd Ha tq2 (.tup [.str "tell", .str "if"])) := sq1.trans (same_new htq2)
    generalize upd Ha tq2 (.tup [.str "tell", .str "if"]) = Hb at sq2 ⊢
    refine inT (show inV (.str ("if" : Str)) [.str "tell", .str "if"] = true by decide +kernel) ?_
    refine ⟨_, rfl, fq, _, _, _, rfl, rfl, SqT.of (sq2 _ _ ef), at0, _, rfl, p, _, _, _, rfl, rfl, SqT.of (sq2 _ _ ep'), at1, _, rfl, ha, _, dxh, _, _, rfl, (sq2 _ _ f1), cH, na_Half_boxes T, l_Half_boxes, m.kinds, (st.hand hd.name).env, e, .int i, kvs, bx, n1.mono (Tk.of sq2), nee.mono (Tk.of sq2), rfl, rd_of (sq2 _ _ f3), f4.mono (Tk.of sq2), hev, fun Hw u sw iu => ?_⟩
    have sW : Same H Hw := sq2.trans sw
    cases im_int iu
    refine ⟨_, rfl, p, _, _, _, rfl, rfl, SqT.of (sW _ _ ep), at0, rfl, _, rfl, ifFD (show ¬ ("if" : Str) = "set" by decide +kernel) ?_⟩
    refine ⟨_, rfl, p, _, _, _, rfl, rfl, SqT.of (sW _ _ ep), at0, rfl, _, rfl, ifFD (show ¬ ("if" : Str) = "send" by decide +kernel) ?_⟩
    refine ⟨_, rfl, p, _, _, _, rfl, rfl, SqT.of (sW _ _ ep), at0, rfl, _, rfl, ifFD (show ¬ ("if" : Str) = "tell" by decide +kernel) ?_⟩
    refine ⟨_, rfl, _, rfl, ha, _, dxh, _, _, rfl, (sW _ _ f1), cH, na_Half_line T, l_Half_line, _, rfl, Rw.ite e k, (st.hand hd.name).line, i, (irv.mono (Tk.of sW)), rfl, (fun _ => rfl), ?_⟩
    refine ⟨_, rfl, ha, _, dxh, _, rfl, (sW _ _ f1), cH, na_Half_line T, len_Half, ?_⟩
    rw [p_Half_line]
    refine ⟨_, rfl, ha, _, dxh, _, _, rfl, upd_same, cH, na_Half_tally T, l_Half_tally, _, _, rfl, rfl, dxh, _, upd_same, len_Half, ?_⟩
    rw [p_Half_tally, upd_upd]
    exact fin _ _ st dxh (bx, nx) (ExtT.refl H τ) (BtT.of (T := fun _ => False) sW).bt (hM0.same sW) (half_same hH0 sW) (hloc.mono sW) (sW _ _ f1) _ rfl rfl
  | tell e =>
    cases hstep with
    | tell hev =>
    rename_i v
    obtain ⟨p', z1, z2, zz, ep', r1, nee⟩ := im2 irv
    cases zz
    refine ifFD (show ¬ ("tell" : Str) = "end" by decide +kernel) ⟨_, rfl, p, _, _, _, rfl, rfl, SqT.of ep, at0, rfl, _, rfl, ifFD (show ¬ ("tell" : Str) = "take" by decide +kernel) (iteF ?_)⟩
    refine ⟨_, rfl, p, _, _, _, rfl, rfl, SqT.of ep, at0, le_size (by show 2 ≤ 100000; decide), fun tq1 htq1 => ?_⟩
    refine ⟨tq1, _, rfl, .inr (SqT.of upd_same), rfl, rfl, _, rfl, ?_⟩
    have sq1 : Same H (upd H tq1 (.tup [.str "set", .str "send"])) := same_new htq1
    generalize upd H tq1 (.tup [.str "set", .str "send"]) = Ha at sq1 ⊢
    refine inF (show inV (.str ("tell" : Str)) [.str "set", .str "send"] = false by decide +kernel) ?_
    refine ⟨_, rfl, p, _, _, _, rfl, rfl, SqT.of (sq1 _ _ ep), at0, le_size (by show 2 ≤ 100000; decide), fun tq2 htq2 => ?_⟩
    refine ⟨tq2, _, rfl, .inr (SqT.of upd_same), rfl, rfl, _, rfl, ?_⟩
    have sq2 : Same H (upd Ha tq2 (.tup [.str "tell", .str "if"])) := sq1.trans (same_new htq2)
    generalize upd Ha tq2 (.tup [.str "tell", .str "if"]) = Hb at sq2 ⊢
    refine inT (show inV (.str ("tell" : Str)) [.str "tell", .str "if"] = true by decide +kernel) ?_
    refine ⟨_, rfl, fq, _, _, _, rfl, rfl, SqT.of (sq2 _ _ ef), at0, _, rfl, p, _, _, _, rfl, rfl, SqT.of (sq2 _ _ ep'), at1, _, rfl, ha, _, dxh, _, _, rfl, (sq2 _ _ f1), cH, na_Half_boxes T, l_Half_boxes, m.kinds, (st.hand hd.name).env, e, v, kvs, bx, n1.mono (Tk.of sq2), nee.mono (Tk.of sq2), rfl, rd_of (sq2 _ _ f3), f4.mono (Tk.of sq2), hev, fun Hw u sw iu => ?_⟩
    have sW : Same H Hw := sq2.trans sw
    refine ⟨_, rfl, p, _, _, _, rfl, rfl, SqT.of (sW _ _ ep), at0, rfl, _, rfl, ifFD (show ¬ ("tell" : Str) = "set" by decide +kernel) ?_⟩
    refine ⟨_, rfl, p, _, _, _, rfl, rfl, SqT.of (sW _ _ ep), at0, rfl, _, rfl, ifFD (show ¬ ("tell" : Str) = "send" by decide +kernel) ?_⟩
    refine ⟨_, rfl, p, _, _, _, rfl, rfl, SqT.of (sW _ _ ep), at0, rfl, _, rfl, ifTD ?_⟩
    have hnl : ns.length ≤ 1000 := by rw [f7.length]; exact sz.notes hd hhd
    refine ⟨_, rfl, ha, _, dxh, _, _, rfl, (sW _ _ f1), cH, na_Half_notes T, l_Half_notes, .inl ⟨rfl, _, SqL.of (sW _ _ f6)⟩, _, rfl, nx, _, _, rfl, rfl, sW _ _ f6, lt_size (by omega), ?_⟩
    have nnx : ha ≠ nx := by rintro rfl; rw [t] at f5; cases f5
    have g0 : upd Hw nx (.lst (ns ++ [u])) ha = _ := (upd_ne nnx).trans (sW _ _ f1)
    refine ⟨_, rfl, ha, dxh, _, rfl, g0, n_Half_seen, ha, dxh, _, _, _, _, _, _, rfl, g0, ?_⟩
    rw [upd_id g0]
    have b2 : BtT τ (fun t => t = (3, hd.name) ∨ t = (4, hd.name) ∨ t = (5, hd.name)) Hw (upd Hw nx (.lst (ns ++ [u]))) := BtT.put f5 (.inr (.inr rfl))
    have mW := hM0.same sW
    have tk := b2.tk mW.own
    have nbx : bx ≠ nx := by rintro rfl; rw [f2] at f5; cases f5
    have half : HalfAt K (upd Hw nx (.lst (ns ++ [u]))) τ hd.name ha ⟨(st.hand hd.name).line, (st.hand hd.name).env, (st.hand hd.name).notes ++ [v], (st.hand hd.name).done⟩ :=
      ⟨t, dxh, bx, nx, kvs, ns ++ [u], g0, f2, (upd_ne nbx).trans (sW _ _ f3), (f4.mono (Tk.of sW)).mono tk, f5, upd_same, (((f7.mono (Tk.of sW)).append (ImL.one iu))).mono tk⟩
    have m2 := mixed_half mW (hloc.mono sW) b2 (mW.own.put ntL) half
    have hl2 : HandOf K (upd Hw nx (.lst (ns ++ [u]))) mp hd.name ha := ⟨dx, _, hp, _, hk, b2.get (sW _ _ e1) e2 tag_no, b2.get (sW _ _ e4) e3 tag_no, hval⟩
    refine ⟨_, rfl, _, rfl, ha, _, dxh, _, _, rfl, g0, cH, na_Half_line T, l_Half_line, _, rfl, Rw.tell e, (st.hand hd.name).line, 0, ((irv.mono (Tk.of sW)).mono tk), rfl, (fun z => by obtain ⟨_, _, z⟩ := z; cases z), ?_⟩
    refine ⟨_, rfl, ha, _, dxh, _, rfl, g0, cH, na_Half_line T, len_Half, ?_⟩
    rw [p_Half_line]
    refine ⟨_, rfl, ha, _, dxh, _, _, rfl, upd_same, cH, na_Half_tally T, l_Half_tally, _, _, rfl, rfl, dxh, _, upd_same, len_Half, ?_⟩
    rw [p_Half_tally, upd_upd]
    have z := fin _ _ _ dxh (bx, nx) (ExtT.refl H τ) ((BtT.of (T := fun _ => False) sW).bt.trans b2.bt) m2 (by rw [MSt.at_same]; exact half) hl2 (by rw [MSt.at_same]; exact g0) ((st.hand hd.name).line + 1) (by rw [MSt.at_same, at_at]) rfl
    rw [MSt.at_same] at z
    exact z
  | set x e =>
    cases hstep with
    | set hev =>
    rename_i v
    obtain ⟨p', z1, z2, z3, zz, ep', r1, r2, nee⟩ := im3 irv
    cases zz
    cases im_str r2
    refine ifFD (show ¬ ("set" : Str) = "end" by decide +kernel) ⟨_, rfl, p, _, _, _, rfl, rfl, SqT.of ep, at0, rfl, _, rfl, ifFD (show ¬ ("set" : Str) = "take" by decide +kernel) (iteF ?_)⟩
    refine ⟨_, rfl, p, _, _, _, rfl, rfl, SqT.of ep, at0, le_size (by show 2 ≤ 100000; decide), fun tq1 htq1 => ?_⟩
    refine ⟨tq1, _, rfl, .inr (SqT.of upd_same), rfl, rfl, _, rfl, ?_⟩
    have sq1 : Same H (upd H tq1 (.tup [.str "set", .str "send"])) := same_new htq1
    generalize upd H tq1 (.tup [.str "set", .str "send"]) = Ha at sq1 ⊢
    refine inT (show inV (.str ("set" : Str)) [.str "set", .str "send"] = true by decide +kernel) ?_
    refine ⟨_, rfl, fq, _, _, _, rfl, rfl, SqT.of (sq1 _ _ ef), at0, _, rfl, p, _, _, _, rfl, rfl, SqT.of (sq1 _ _ ep'), at2, _, rfl, ha, _, dxh, _, _, rfl, (sq1 _ _ f1), cH, na_Half_boxes T, l_Half_boxes, m.kinds, (st.hand hd.name).env, e, v, kvs, bx, n1.mono (Tk.of sq1), nee.mono (Tk.of sq1), rfl, rd_of (sq1 _ _ f3), f4.mono (Tk.of sq1), hev, fun Hw u sw iu => ?_⟩
    have sW : Same H Hw := sq1.trans sw
    refine ⟨_, rfl, p, _, _, _, rfl, rfl, SqT.of (sW _ _ ep), at0, rfl, _, rfl, ifTD ?_⟩
    have hkl : kvs.length ≤ 1000 := by rw [f4.length]; exact hel
    refine ⟨_, rfl, _, rfl, ha, _, dxh, _, _, rfl, (sW _ _ f1), cH, na_Half_boxes T, l_Half_boxes, _, rfl, p, _, _, _, rfl, rfl, SqT.of (sW _ _ ep'), at1, bx, _, rfl, DPut.k (k := Sum.inr x) (sW _ _ f3) (lt_size (by omega)), ?_⟩
    have nbx : ha ≠ bx := by rintro rfl; rw [t] at f2; cases f2
    have g0 : upd Hw bx (.dK (putK kvs (Sum.inr x) u)) ha = _ := (upd_ne nbx).trans (sW _ _ f1)
    have b2 : BtT τ (fun t => t = (3, hd.name) ∨ t = (4, hd.name) ∨ t = (5, hd.name)) Hw (upd Hw bx (.dK (putK kvs (Sum.inr x) u))) := BtT.put f2 (.inr (.inl rfl))
    have mW := hM0.same sW
    have tk := b2.tk mW.own
    have nnx : nx ≠ bx := by rintro rfl; rw [f2] at f5; cases f5
    have half : HalfAt K (upd Hw bx (.dK (putK kvs (Sum.inr x) u))) τ hd.name ha ⟨(st.hand hd.name).line, putE (st.hand hd.name).env x v, (st.hand hd.name).notes, (st.hand hd.name).done⟩ :=
      ⟨t, dxh, bx, nx, _, ns, g0, f2, upd_same, ((f4.mono (Tk.of sW)).put iu).mono tk, f5, (upd_ne nnx).trans (sW _ _ f6), (f7.mono (Tk.of sW)).mono tk⟩
    have m2 := mixed_half mW (hloc.mono sW) b2 (mW.own.put ntK) half
    have hl2 : HandOf K (upd Hw bx (.dK (putK kvs (Sum.inr x) u))) mp hd.name ha := ⟨dx, _, hp, _, hk, b2.get (sW _ _ e1) e2 tag_no, b2.get (sW _ _ e4) e3 tag_no, hval⟩
    refine ⟨_, rfl, _, rfl, ha, _, dxh, _, _, rfl, g0, cH, na_Half_line T, l_Half_line, _, rfl, Rw.set x e, (st.hand hd.name).line, 0, ((irv.mono (Tk.of sW)).mono tk), rfl, (fun z => by obtain ⟨_, _, z⟩ := z; cases z), ?_⟩
    refine ⟨_, rfl, ha, _, dxh, _, rfl, g0, cH, na_Half_line T, len_Half, ?_⟩
    rw [p_Half_line]
    refine ⟨_, rfl, ha, _, dxh, _, _, rfl, upd_same, cH, na_Half_tally T, l_Half_tally, _, _, rfl, rfl, dxh, _, upd_same, len_Half, ?_⟩
    rw [p_Half_tally, upd_upd]
    have z := fin _ _ _ dxh (bx, nx) (ExtT.refl H τ) ((BtT.of (T := fun _ => False) sW).bt.trans b2.bt) m2 (by rw [MSt.at_same]; exact half) hl2 (by rw [MSt.at_same]; exact g0) ((st.hand hd.name).line + 1) (by rw [MSt.at_same, at_at]) rfl
    rw [MSt.at_same] at z
    exact z
  | send c e =>
    obtain ⟨ch, hch, rfl, hsrc, _⟩ := rok
    cases hstep with
    | send hev =>
    rename_i v
    obtain ⟨p', z1, z2, z3, zz, ep', r1, r2, nee⟩ := im3 irv
    cases zz
    cases im_str r2
    refine ifFD (show ¬ ("send" : Str) = "end" by decide +kernel) ⟨_, rfl, p, _, _, _, rfl, rfl, SqT.of ep, at0, rfl, _, rfl, ifFD (show ¬ ("send" : Str) = "take" by decide +kernel) (iteF ?_)⟩
    refine ⟨_, rfl, p, _, _, _, rfl, rfl, SqT.of ep, at0, le_size (by show 2 ≤ 100000; decide), fun tq1 htq1 => ?_⟩
    refine ⟨tq1, _, rfl, .inr (SqT.of upd_same), rfl, rfl, _, rfl, ?_⟩
    have sq1 : Same H (upd H tq1 (.tup [.str "set", .str "send"])) := same_new htq1
    generalize upd H tq1 (.tup [.str "set", .str "send"]) = Ha at sq1 ⊢
    refine inT (show inV (.str ("send" : Str)) [.str "set", .str "send"] = true by decide +kernel) ?_
    refine ⟨_, rfl, fq, _, _, _, rfl, rfl, SqT.of (sq1 _ _ ef), at0, _, rfl, p, _, _, _, rfl, rfl, SqT.of (sq1 _ _ ep'), at2, _, rfl, ha, _, dxh, _, _, rfl, (sq1 _ _ f1), cH, na_Half_boxes T, l_Half_boxes, m.kinds, (st.hand hd.name).env, e, v, kvs, bx, n1.mono (Tk.of sq1), nee.mono (Tk.of sq1), rfl, rd_of (sq1 _ _ f3), f4.mono (Tk.of sq1), hev, fun Hw u sw iu => ?_⟩
    have sW : Same H Hw := sq1.trans sw
    refine ⟨_, rfl, p, _, _, _, rfl, rfl, SqT.of (sW _ _ ep), at0, rfl, _, rfl, ifFD (show ¬ ("send" : Str) = "set" by decide +kernel) ?_⟩
    refine ⟨_, rfl, p, _, _, _, rfl, rfl, SqT.of (sW _ _ ep), at0, rfl, _, rfl, ifTD ?_⟩
    obtain ⟨ra, xs, v1, v2, v3, v4⟩ := e8.row ch hch
    have hxl : xs.length ≤ 1000 := by rw [v4.length, List.length_map]; exact sz.row ch hch
    refine ⟨_, rfl, mp, _, dx, _, _, rfl, sW _ _ e1, cM, na_Mixed_rows T, l_Mixed_rows, _, rfl, p, _, _, _, rfl, rfl, SqT.of (sW _ _ ep'), at1, rp, .ref ra, rfl, v1 ▸ dget_s (rd_of (sW _ _ e7)), .inl ⟨rfl, _, SqL.of (sW _ _ v3)⟩, _, rfl, ha, _, dxh, _, _, rfl, (sW _ _ f1), cH, na_Half_make T, l_Half_make, _, rfl, le_size (by show 2 ≤ 100000; decide), fun tq htq => ?_⟩
    have sT : Same Hw (upd Hw tq (.tup [.int 1, u])) := same_new htq
    have iT : Im (upd Hw tq (.tup [.int 1, u])) (.ref tq) (ltD v) := im_new htq (.cons (.int 1) (.cons iu .nil))
    generalize upd Hw tq (.tup [.int 1, u]) = Ht at sT iT ⊢
    have sX := sW.trans sT
    refine ⟨ra, _, _, rfl, rfl, sX _ _ v3, lt_size (by omega), ?_⟩
    have nra : ha ≠ ra := by rintro rfl; rw [t] at v2; cases v2
    have nbx : bx ≠ ra := by rintro rfl; rw [f2] at v2; cases v2
    have nnx : nx ≠ ra := by rintro rfl; rw [f5] at v2; cases v2
    have g0 : upd Ht ra (.lst (xs ++ [.ref tq])) ha = _ := (upd_ne nra).trans (sX _ _ f1)
    refine ⟨_, rfl, ha, dxh, _, rfl, g0, n_Half_seen, ha, dxh, _, _, _, _, _, _, rfl, g0, ?_⟩
    rw [upd_id g0]
    have b2 : BtT τ (fun t => t = (6, ch.name)) Ht (upd Ht ra (.lst (xs ++ [.ref tq]))) := BtT.put v2 rfl
    have mX := hM0.same sX
    have tk := b2.tk mX.own
    have m2 : MixedAt K (upd Ht ra (.lst (xs ++ [.ref tq]))) τ mp ov m (st.rowAt ch.name (st.row ch.name ++ [v])) := by
      refine mixed_row mX b2 (mX.own.put ntL) fun rk' rp' dx' hp' q1 q2 a qa => ?_
      rw [sX _ _ e1] at q1
      cases q1
      rw [sX _ _ e7] at q2
      cases q2
      rw [v1] at qa
      cases qa
      refine ⟨_, upd_same, ?_⟩
      rw [List.map_append]
      exact ((v4.mono (Tk.of sX)).append (ImL.one iT)).mono tk
    have half : HalfAt K (upd Ht ra (.lst (xs ++ [.ref tq]))) τ hd.name ha (st.hand hd.name) :=
      ⟨t, dxh, bx, nx, kvs, ns, g0, f2, (upd_ne nbx).trans (sX _ _ f3), (f4.mono (Tk.of sX)).mono tk, f5, (upd_ne nnx).trans (sX _ _ f6), (f7.mono (Tk.of sX)).mono tk⟩
    have hl2 : HandOf K (upd Ht ra (.lst (xs ++ [.ref tq]))) mp hd.name ha := ⟨dx, _, hp, _, hk, b2.get (sX _ _ e1) e2 (fun z => by cases z), b2.get (sX _ _ e4) e3 (fun z => by cases z), hval⟩
    refine ⟨_, rfl, _, rfl, ha, _, dxh, _, _, rfl, g0, cH, na_Half_line T, l_Half_line, _, rfl, Rw.send ch.name e, (st.hand hd.name).line, 0, ((irv.mono (Tk.of sX)).mono tk), rfl, (fun z => by obtain ⟨_, _, z⟩ := z; cases z), ?_⟩
    refine ⟨_, rfl, ha, _, dxh, _, rfl, g0, cH, na_Half_line T, len_Half, ?_⟩
    rw [p_Half_line]
    refine ⟨_, rfl, ha, _, dxh, _, _, rfl, upd_same, cH, na_Half_tally T, l_Half_tally, _, _, rfl, rfl, dxh, _, upd_same, len_Half, ?_⟩
    rw [p_Half_tally, upd_upd]
    exact fin _ _ (st.rowAt ch.name (st.row ch.name ++ [v])) dxh (bx, nx) (ExtT.refl H τ) ((BtT.of (T := fun _ => False) sX).bt.trans b2.bt) m2 half hl2 g0 ((st.hand hd.name).line + 1) rfl rfl
  | take l c x =>
    obtain ⟨ch, hch, rfl, hdst, _⟩ := rok
    obtain ⟨p', z1, z2, z3, z4, zz, ep', r1, r2, r3, r4⟩ := im4 irv
    cases zz
    cases im_str r3
    cases im_str r4
    refine ifFD (show ¬ ("take" : Str) = "end" by decide +kernel) ⟨_, rfl, p, _, _, _, rfl, rfl, SqT.of ep, at0, rfl, _, rfl, ifTD ?_⟩
    refine ⟨_, rfl, mp, dx, _, rfl, e1, n_Mixed_takes, _, rfl, _, rfl, p, _, _, _, rfl, rfl, SqT.of ep', at2, _, rfl, p, _, _, _, rfl, rfl, SqT.of ep', at3, τ, m, mp, ov, st, hd, ha, ch, x, rfl, rfl, rfl, rfl, hM0, hhd, hch, hH0, hloc, hel, sz.row ch hch, (by have := ok.cfew; omega), fun hr H' s1 => ?_, fun d r hr H' τ' ext bt half hl mx m2 => ?_⟩
    · cases hstep with
      | wait _ => exact ⟨_, rfl, iteT (k1 _ τ (ExtT.refl H τ) (BtT.of (T := fun _ => False) s1).bt (hM0.same s1))⟩
      | take q => rw [hr] at q; cases q
    · cases hstep with
      | wait q => rw [hr] at q; cases q
      | take q =>
      rename_i d' r'
      rw [hr] at q
      cases q
      refine ⟨_, rfl, iteF ?_⟩
      have tkH : Tk H H' := bt.tk fun a o fa ea => by
        cases ta : τ a with
        | none => exact absurd ta fa
        | some tt =>
          obtain ⟨o', e', n'⟩ := w0 a tt ta
          rw [ea] at e'
          cases e'
          exact n'
      have ep := tkH _ _ ep trivial
      have irv := irv.mono tkH
      have half0 := half
      obtain ⟨t9, dxh, bx, nx, kvs, ns, f1, f2, f3, f4, f5, f6, f7⟩ := half
      refine ⟨_, rfl, p, _, _, _, rfl, rfl, SqT.of ep, at0, le_size (by show 2 ≤ 100000; decide), fun tq1 htq1 => ?_⟩
      refine ⟨tq1, _, rfl, .inr (SqT.of upd_same), rfl, rfl, _, rfl, ?_⟩
      have sq1 : Same H' (upd H' tq1 (.tup [.str "set", .str "send"])) := same_new htq1
      generalize upd H' tq1 (.tup [.str "set", .str "send"]) = Ha at sq1 ⊢
      refine inF (show inV (.str ("take" : Str)) [.str "set", .str "send"] = false by decide +kernel) ?_
      refine ⟨_, rfl, p, _, _, _, rfl, rfl, SqT.of (sq1 _ _ ep), at0, le_size (by show 2 ≤ 100000; decide), fun tq2 htq2 => ?_⟩
      refine ⟨tq2, _, rfl, .inr (SqT.of upd_same), rfl, rfl, _, rfl, ?_⟩
      have sq2 : Same H' (upd Ha tq2 (.tup [.str "tell", .str "if"])) := sq1.trans (same_new htq2)
      generalize upd Ha tq2 (.tup [.str "tell", .str "if"]) = Hb at sq2 ⊢
      refine inF (show inV (.str ("take" : Str)) [.str "tell", .str "if"] = false by decide +kernel) ?_
      refine ⟨_, rfl, p, _, _, _, rfl, rfl, SqT.of (sq2 _ _ ep), at0, rfl, _, rfl, ifFD (show ¬ ("take" : Str) = "set" by decide +kernel) ?_⟩
      refine ⟨_, rfl, p, _, _, _, rfl, rfl, SqT.of (sq2 _ _ ep), at0, rfl, _, rfl, ifFD (show ¬ ("take" : Str) = "send" by decide +kernel) ?_⟩
      refine ⟨_, rfl, p, _, _, _, rfl, rfl, SqT.of (sq2 _ _ ep), at0, rfl, _, rfl, ifFD (show ¬ ("take" : Str) = "tell" by decide +kernel) ?_⟩
      refine ⟨_, rfl, _, rfl, ha, _, dxh, _, _, rfl, sq2 _ _ f1, cH, na_Half_line T, l_Half_line, _, rfl, Rw.take l ch.name x, (st.hand hd.name).line, 0, irv.mono (Tk.of sq2), rfl, (fun z => by obtain ⟨_, _, z⟩ := z; cases z), ?_⟩
      refine ⟨_, rfl, ha, _, dxh, _, rfl, sq2 _ _ f1, cH, na_Half_line T, len_Half, ?_⟩
      rw [p_Half_line]
      refine ⟨_, rfl, ha, _, dxh, _, _, rfl, upd_same, cH, na_Half_tally T, l_Half_tally, _, _, rfl, rfl, dxh, _, upd_same, len_Half, ?_⟩
      rw [p_Half_tally, upd_upd]
      have e2 : ((st.at hd.name ⟨(st.hand hd.name).line, putE (st.hand hd.name).env x d, (st.hand hd.name).notes, (st.hand hd.name).done⟩).rowAt ch.name r).hand hd.name = ⟨(st.hand hd.name).line, putE (st.hand hd.name).env x d, (st.hand hd.name).notes, (st.hand hd.name).done⟩ := MSt.at_same
      have z := fin Hb τ' _ dxh (bx, nx) ext (bt.trans (Bt.of sq2)) (m2.same sq2) (by rw [e2]; exact half_same half0 sq2) (hl.mono sq2) (by rw [e2]; exact sq2 _ _ f1) ((st.hand hd.name).line + 1) (by rw [e2, at_rowAt, at_at]) rfl
      rw [e2] at z
      exact z
end
end SwK
set_option maxHeartbeats 8000000
/-! the mixed house: what it tells; two alike -/
namespace SwK
open PySem PySem.Spec PyProof.Rows L2
theorem DpL.succ : ∀ {n : Nat} {d : Da}, DpL n d → DpL (n + 1) d
  | 0, _, h => h.elim
  | _ + 1, .int _, _ => trivial
  | _ + 1, .str _, _ => trivial
  | _ + 1, .tup l, h => fun d hd => DpL.succ ((show ∀ d ∈ l, DpL _ d from h) d hd)
  | _ + 1, .pt l, h => fun d hd => DpL.succ ((show ∀ d ∈ l, DpL _ d from h) d hd)
theorem DpL.mono {n m : Nat} {d : Da} (h : DpL n d) (hm : n ≤ m) : DpL m d := by
  induction hm with
  | refl => exact h
  | step _ ih => exact ih.succ
theorem paired_mem {α β : Type} {F : α → β → Prop} {l : List α} {m : List β} (h : Paired F l m) {b : β} (hb : b ∈ m) : ∃ a ∈ l, F a b := by
  induction h with
  | nil => cases hb
  | @cons a _ _ _ r _ ih =>
    rcases List.mem_cons.mp hb with e | e
    · subst e
      exact ⟨a, List.mem_cons_self, r⟩
    · obtain ⟨a', h1, h2⟩ := ih e
      exact ⟨a', List.mem_cons_of_mem _ h1, h2⟩
theorem vt_dp {ks : List Kd} : ∀ {n : Nat} {k : Str} {d : Da}, VT ks n k d → DpL (2 * n + 1) d
  | 0, _, _, h => by
    obtain ⟨_, i, rfl, _⟩ := h
    trivial
  | n + 1, k, d, h => by
    rcases h with ⟨_, i, rfl, _⟩ | ⟨kd, _, h⟩
    · trivial
    · have e : 2 * (n + 1) + 1 = (2 * n + 1) + 1 + 1 := by omega
      rw [e]
      rcases h with ⟨_, vs, rfl, r⟩ | ⟨_, t, p, v, _, rfl, r⟩
      · intro d hd
        rcases List.mem_cons.mp hd with rfl | hd
        · trivial
        rcases List.mem_cons.mp hd with rfl | hd
        · intro v hv
          obtain ⟨p, _, hp⟩ := paired_mem r hv
          exact vt_dp hp
        cases hd
      · intro d hd
        rcases List.mem_cons.mp hd with rfl | hd
        · trivial
        rcases List.mem_cons.mp hd with rfl | hd
        · trivial
        rcases List.mem_cons.mp hd with rfl | hd
        · exact (vt_dp r).succ
        cases hd
theorem vt_dp9 {ks : List Kd} {k : Str} {d : Da} (h : VT ks 4 k d) : DpL 9 d := vt_dp h
theorem ltD_dp {d : Da} (h : DpL 9 d) : DpL 10 (ltD d) := by
  intro e he
  rcases List.mem_cons.mp he with rfl | he
  · trivial
  rcases List.mem_cons.mp he with rfl | he
  · exact h
  cases he
theorem EnvT.dp {ks : List Kd} {Γ : List (Str × Str)} {ρ : List (Str × Da)} (h : EnvT ks Γ ρ) : ∀ p ∈ ρ, DpL 9 p.2 := fun p hp => by
  obtain ⟨h1, h2, h3⟩ := h
  have hn : (ρ.map (·.1)).Nodup := by rw [h1]; exact h2
  have hm : p.1 ∈ Γ.map (·.1) := by rw [← h1]; exact List.mem_map.mpr ⟨p, hp, rfl⟩
  obtain ⟨k, hk⟩ := lkE_some hm
  obtain ⟨v, e1, e2⟩ := h3 _ _ hk
  rw [lkE_of_mem hn hp] at e1
  cases e1
  exact vt_dp9 e2
theorem KvI.mem {H : Hp} {kvs : List (Key × V)} {ρ : List (Str × Da)} (h : KvI H kvs ρ) {p : Key × V} (hp : p ∈ kvs) : ∃ x d, p.1 = Sum.inr x ∧ (x, d) ∈ ρ ∧ Im H p.2 d := by
  induction h with
  | nil => cases hp
  | @cons x v d kvs ρ a _ ih =>
    rcases List.mem_cons.mp hp with rfl | hp
    · exact ⟨x, d, rfl, List.mem_cons_self, a⟩
    · obtain ⟨y, e, h1, h2, h3⟩ := ih hp
      exact ⟨y, e, h1, List.mem_cons_of_mem _ h2, h3⟩
theorem eqS_kv {K : PySem.W.Frag} {H : Hp} {n : Nat} {a b : Addr} {ks ls : List (Key × V)} {ρ : List (Str × Da)} (ha : Rd H a (.dK ks)) (hb : Rd H b (.dK ls)) (ka : KvI H ks ρ) (kb : KvI H ls ρ) (hn : (ρ.map (·.1)).Nodup) (hd : ∀ p ∈ ρ, DpL n p.2) :
    EqS K H (EqX K H n) (.ref a) (.ref b) := by
  refine .inr (.inr ⟨a, b, ks, ls, rfl, rfl, ha, hb, ka.length.trans kb.length.symm, fun p hp => ?_⟩)
  obtain ⟨x, d, e, hm, i⟩ := ka.mem hp
  obtain ⟨u, u1, u2⟩ := kb.has (lkE_of_mem hn hm)
  rw [e]
  exact ⟨u, u1, im_eqX (hd _ hm) i u2⟩
theorem eqS_lst {K : PySem.W.Frag} {H : Hp} {n : Nat} {a b : Addr} {xs ys : List V} {l : List Da} (ha : H a = some (.lst xs)) (hb : H b = some (.lst ys)) (ia : ImL H xs l) (ib : ImL H ys l) (hd : ∀ d ∈ l, DpL n d) : EqS K H (EqX K H n) (.ref a) (.ref b) :=
  .inl ⟨a, b, xs, ys, rfl, rfl, SqL.of ha, SqL.of hb, iml_eqX hd ia ib⟩
theorem valV_key {kvs : List (Key × V)} (hn : (kvs.map (·.1)).Nodup) {p : Key × V} (hp : p ∈ kvs) : valV kvs p.1 = some p.2 := by
  induction kvs with
  | nil => cases hp
  | cons q l ih =>
    rw [List.map_cons, List.nodup_cons] at hn
    rcases List.mem_cons.mp hp with rfl | hp
    · exact valV_pos rfl
    · rw [valV_neg, ih hn.2 hp]
      intro e
      exact hn.1 (e ▸ List.mem_map.mpr ⟨p, hp, rfl⟩)
theorem nd_inr {l : List Str} (h : l.Nodup) : (l.map (Sum.inr : Str → Key)).Nodup := by
  refine List.Pairwise.map _ (fun a b hne e => hne (Sum.inr.inj e)) h
/-! ### promises -/
section
variable (K : PySem.W.Frag)
def MxCtx (H : Hp) (τ : Tags) (mp ov : Addr) (m : Mk0) (st : MSt) : Prop := MkOk m ∧ MixedAt K H τ mp ov m st ∧ WT m st
def spMakeOf : Sp := sp2 fun a b H Q => ∃ τ m mp ov st hd, a = .ref mp ∧ b = .str hd.name ∧ hd ∈ m.hands ∧ MixedAt K H τ mp ov m st ∧ Q (.int 1) H
def spCount : Sp := sp2 fun a b H Q => ∃ τ m mp ov st hd, a = .ref mp ∧ b = .str hd.name ∧ hd ∈ m.hands ∧ MixedAt K H τ mp ov m st ∧ Q (.int ((st.hand hd.name).done : Nat)) H
def spStand : Sp := sp2 fun a b H Q => ∃ τ m mp ov st hd, a = .ref mp ∧ b = .str hd.name ∧ hd ∈ m.hands ∧ MixedAt K H τ mp ov m st ∧
  ∀ H' r q kvs, Same H H' → H r = none → H' r = some (.tup [.int ((st.hand hd.name).line : Nat), .ref q]) → H' q = some (.dK kvs) → KvI H' kvs (st.hand hd.name).env → Q (.ref r) H'
def spTold : Sp := sp2 fun a b H Q => ∃ τ m mp ov st hd, a = .ref mp ∧ b = .str hd.name ∧ hd ∈ m.hands ∧ MixedAt K H τ mp ov m st ∧
  ∀ H' q xs, Same H H' → H q = none → H' q = some (.lst xs) → ImL H' xs (st.hand hd.name).notes → Q (.ref q) H'
def spLetters : Sp := sp2 fun a b H Q => ∃ τ m mp ov st ch, a = .ref mp ∧ b = .str ch.name ∧ ch ∈ m.chans ∧ MixedAt K H τ mp ov m st ∧
  ∀ H' q xs, Same H H' → H q = none → H' q = some (.lst xs) → ImL H' xs ((st.row ch.name).map ltD) → Q (.ref q) H'
def spAllP : Sp := sp1 fun a H Q => ∃ ha dx l bx nx dn, a = .ref ha ∧ H ha = some (.ins (C_Half K) dx (A_Half (.int 1) l bx nx dn .non)) ∧ ∀ r, H r = none → Q (.ref r) (upd H r (.tup [.int 1, l, bx, nx, dn, .non]))
def spSame : Sp := sp2 fun a b H Q => ∃ τ τ2 m mp mp2 ov ov2 st, a = .ref mp ∧ b = .ref mp2 ∧ MkOk m ∧ WT m st ∧ MixedAt K H τ mp ov m st ∧ MixedAt K H τ2 mp2 ov2 m st ∧ (∀ a, τ a ≠ none → τ2 a = none) ∧ ∀ H', Same H H' → Q (.bl true) H'
end
section
variable {P : Program} {w : World} {K : PySem.W.Frag} {mg : Str → Option Value} {base : Heap}
/- Mixed.make_of: slots 0 self 1 h -/
theorem sc_Mixed_make_of : FnScope ["self", "h"] ["self", "h"] (defScope s_Mixed_make_of) := ⟨rfl, rfl, rfl, by decide +kernel, rfl, by decide +kernel, by decide +kernel⟩
theorem ok_Mixed_make_of (T : Txt K mg) : C8.Met P w K mg base 1 (C_Mixed K) "make_of" (spMakeOf K) [] := by
  refine mkMet (f_Mixed_make_of T) (cl_Mixed T) (me_Mixed_make_of T) sc_Mixed_make_of (fun _ _ _ _ _ _ us hl => match us, hl with | [_, _], _ => rfl) (fun vs H Q E h => ?_) (fun vs H Q E h => ?_)
  · obtain ⟨a, b, rfl, _⟩ := sp2_len h
    rfl
  obtain ⟨a, b, rfl, h⟩ := sp2_len h
  intro cdv A outer s E hr
  have hu := hu_of hr
  obtain ⟨τ, m, mp, ov, st, hd, rfl, rfl, hhd, ⟨w0, dx, hp, rp, hk, rk, e1, e2, e3, e4, e5, e6, e7, e8⟩, k1⟩ := h
  obtain ⟨ha, hval, t, dxh, bx, nx, kvs, ns, f1, f2, f3, f4, f5, f6, f7⟩ := e5.half hd hhd
  refine ⟨_, (pss_one (ps_ret (pe_fld (pe_dget hu (pe_fld (pv 0) rfl) (pv 1) (fun _ _ => rfl)) rfl))), ?_⟩
  exact ⟨_, rfl, mp, _, dx, _, _, rfl, e1, cl_Mixed T, na_Mixed_hands T, l_Mixed_hands, _, rfl, hp, .ref ha, rfl, hval ▸ dget_s (rd_of e4), ha, _, dxh, _, _, rfl, f1, cl_Half T, na_Half_make T, l_Half_make, k1⟩
/- Mixed.count: slots 0 self 1 h -/
theorem sc_Mixed_count : FnScope ["self", "h"] ["self", "h"] (defScope s_Mixed_count) := ⟨rfl, rfl, rfl, by decide +kernel, rfl, by decide +kernel, by decide +kernel⟩
theorem ok_Mixed_count (T : Txt K mg) : C8.Met P w K mg base 1 (C_Mixed K) "count" (spCount K) [] := by
  refine mkMet (f_Mixed_count T) (cl_Mixed T) (me_Mixed_count T) sc_Mixed_count (fun _ _ _ _ _ _ us hl => match us, hl with | [_, _], _ => rfl) (fun vs H Q E h => ?_) (fun vs H Q E h => ?_)
  · obtain ⟨a, b, rfl, _⟩ := sp2_len h
    rfl
  obtain ⟨a, b, rfl, h⟩ := sp2_len h
  intro cdv A outer s E hr
  have hu := hu_of hr
  obtain ⟨τ, m, mp, ov, st, hd, rfl, rfl, hhd, ⟨w0, dx, hp, rp, hk, rk, e1, e2, e3, e4, e5, e6, e7, e8⟩, k1⟩ := h
  obtain ⟨ha, hval, t, dxh, bx, nx, kvs, ns, f1, f2, f3, f4, f5, f6, f7⟩ := e5.half hd hhd
  refine ⟨_, (pss_one (ps_ret (pe_fld (pe_dget hu (pe_fld (pv 0) rfl) (pv 1) (fun _ _ => rfl)) rfl))), ?_⟩
  exact ⟨_, rfl, mp, _, dx, _, _, rfl, e1, cl_Mixed T, na_Mixed_hands T, l_Mixed_hands, _, rfl, hp, .ref ha, rfl, hval ▸ dget_s (rd_of e4), ha, _, dxh, _, _, rfl, f1, cl_Half T, na_Half_tally T, l_Half_tally, k1⟩
/- Mixed.stand: slots 0 self 1 h -/
theorem sc_Mixed_stand : FnScope ["self", "h"] ["self", "h"] (defScope s_Mixed_stand) := ⟨rfl, rfl, rfl, by decide +kernel, rfl, by decide +kernel, by decide +kernel⟩
theorem ok_Mixed_stand (T : Txt K mg) : C8.Met P w K mg base 1 (C_Mixed K) "stand" (spStand K) [] := by
  refine mkMet (f_Mixed_stand T) (cl_Mixed T) (me_Mixed_stand T) sc_Mixed_stand (fun _ _ _ _ _ _ us hl => match us, hl with | [_, _], _ => rfl) (fun vs H Q E h => ?_) (fun vs H Q E h => ?_)
  · obtain ⟨a, b, rfl, _⟩ := sp2_len h
    rfl
  obtain ⟨a, b, rfl, h⟩ := sp2_len h
  intro cdv A outer s E hr
  have hu := hu_of hr
  obtain ⟨τ, m, mp, ov, st, hd, rfl, rfl, hhd, ⟨w0, dx, hp, rp, hk, rk, e1, e2, e3, e4, e5, e6, e7, e8⟩, k1⟩ := h
  obtain ⟨ha, hval, t, dxh, bx, nx, kvs, ns, f1, f2, f3, f4, f5, f6, f7⟩ := e5.half hd hhd
  refine ⟨_, (pss_one (ps_ret (pe_tup (pa_cons (pe_fld (pe_dget hu (pe_fld (pv 0) rfl) (pv 1) (fun _ _ => rfl)) rfl) (pa_cons (pe_callTy call_dictD rfl (z_dict T) (by decide +kernel) (pa_cons (pe_fld (pe_dget hu (pe_fld (pv 0) rfl) (pv 1) (fun _ _ => rfl)) rfl) pa_nil)) pa_nil))))), ?_⟩
  refine ⟨_, rfl, mp, _, dx, _, _, rfl, e1, cl_Mixed T, na_Mixed_hands T, l_Mixed_hands, _, rfl, hp, .ref ha, rfl, hval ▸ dget_s (rd_of e4), ha, _, dxh, _, _, rfl, f1, cl_Half T, na_Half_line T, l_Half_line,
    _, rfl, mp, _, dx, _, _, rfl, e1, cl_Mixed T, na_Mixed_hands T, l_Mixed_hands, _, rfl, hp, .ref ha, rfl, hval ▸ dget_s (rd_of e4), ha, _, dxh, _, _, rfl, f1, cl_Half T, na_Half_boxes T, l_Half_boxes, bx, kvs, rfl, rd_of f3, fun q hq => ⟨le_size (by show 2 ≤ 100000; decide), fun r hr => ?_⟩⟩
  have s1 : Same H (upd H q (.dK kvs)) := same_new hq
  have s2 : Same (upd H q (.dK kvs)) (upd (upd H q (.dK kvs)) r (.tup [.int ((st.hand hd.name).line : Nat), .ref q])) := same_new hr
  have hrn : H r = none := by
    cases e : H r with
    | none => rfl
    | some o => rw [s1 _ _ e] at hr; cases hr
  exact k1 _ r q kvs (s1.trans s2) hrn upd_same (s2 _ _ upd_same) (f4.mono (Tk.of (s1.trans s2)))
/- Mixed.told: slots 0 self 1 h -/
theorem sc_Mixed_told : FnScope ["self", "h"] ["self", "h"] (defScope s_Mixed_told) := ⟨rfl, rfl, rfl, by decide +kernel, rfl, by decide +kernel, by decide +kernel⟩
theorem ok_Mixed_told (T : Txt K mg) : C8.Met P w K mg base 1 (C_Mixed K) "told" (spTold K) [] := by
  refine mkMet (f_Mixed_told T) (cl_Mixed T) (me_Mixed_told T) sc_Mixed_told (fun _ _ _ _ _ _ us hl => match us, hl with | [_, _], _ => rfl) (fun vs H Q E h => ?_) (fun vs H Q E h => ?_)
  · obtain ⟨a, b, rfl, _⟩ := sp2_len h
    rfl
  obtain ⟨a, b, rfl, h⟩ := sp2_len h
  intro cdv A outer s E hr
  have hu := hu_of hr
  obtain ⟨τ, m, mp, ov, st, hd, rfl, rfl, hhd, ⟨w0, dx, hp, rp, hk, rk, e1, e2, e3, e4, e5, e6, e7, e8⟩, k1⟩ := h
  obtain ⟨ha, hval, t, dxh, bx, nx, kvs, ns, f1, f2, f3, f4, f5, f6, f7⟩ := e5.half hd hhd
  refine ⟨_, (pss_one (ps_ret (pe_callTy call_list_of rfl (z_list T) (by decide +kernel) (pa_cons (pe_fld (pe_dget hu (pe_fld (pv 0) rfl) (pv 1) (fun _ _ => rfl)) rfl) pa_nil)))), ?_⟩
  refine ⟨_, rfl, mp, _, dx, _, _, rfl, e1, cl_Mixed T, na_Mixed_hands T, l_Mixed_hands, _, rfl, hp, .ref ha, rfl, hval ▸ dget_s (rd_of e4), ha, _, dxh, _, _, rfl, f1, cl_Half T, na_Half_notes T, l_Half_notes, nx, ns, rfl, .inl (SqL.of f6), fun q hq => ?_⟩
  exact k1 _ q ns (same_new hq) hq upd_same (f7.mono (Tk.of (same_new hq)))
/- Mixed.letters: slots 0 self 1 c -/
theorem sc_Mixed_letters : FnScope ["self", "c"] ["self", "c"] (defScope s_Mixed_letters) := ⟨rfl, rfl, rfl, by decide +kernel, rfl, by decide +kernel, by decide +kernel⟩
theorem ok_Mixed_letters (T : Txt K mg) : C8.Met P w K mg base 1 (C_Mixed K) "letters" (spLetters K) [] := by
  refine mkMet (f_Mixed_letters T) (cl_Mixed T) (me_Mixed_letters T) sc_Mixed_letters (fun _ _ _ _ _ _ us hl => match us, hl with | [_, _], _ => rfl) (fun vs H Q E h => ?_) (fun vs H Q E h => ?_)
  · obtain ⟨a, b, rfl, _⟩ := sp2_len h
    rfl
  obtain ⟨a, b, rfl, h⟩ := sp2_len h
  intro cdv A outer s E hr
  have hu := hu_of hr
  obtain ⟨τ, m, mp, ov, st, ch, rfl, rfl, hch, ⟨w0, dx, hp, rp, hk, rk, e1, e2, e3, e4, e5, e6, e7, e8⟩, k1⟩ := h
  obtain ⟨ra, xs, v1, v2, v3, v4⟩ := e8.row ch hch
  refine ⟨_, (pss_one (ps_ret (pe_callTy call_list_of rfl (z_list T) (by decide +kernel) (pa_cons (pe_dget hu (pe_fld (pv 0) rfl) (pv 1) (fun _ _ => rfl)) pa_nil)))), ?_⟩
  refine ⟨_, rfl, mp, _, dx, _, _, rfl, e1, cl_Mixed T, na_Mixed_rows T, l_Mixed_rows, _, rfl, rp, .ref ra, rfl, v1 ▸ dget_s (rd_of e7), ra, xs, rfl, .inl (SqL.of v3), fun q hq => ?_⟩
  exact k1 _ q xs (same_new hq) hq upd_same (v4.mono (Tk.of (same_new hq)))
/- Half.all_parts: slots 0 self 1 before -/
theorem sc_Half_all_parts : FnScope ["self", "before"] ["self"] (defScope s_Half_all_parts) := ⟨rfl, rfl, rfl, by decide +kernel, rfl, by decide +kernel, by decide +kernel⟩
theorem ok_Half_all_parts (T : Txt K mg) : C8.Met P w K mg base 1 (C_Half K) "all_parts" (spAllP K) [] := by
  refine mkMet (f_Half_all_parts T) (cl_Half T) (me_Half_all_parts T) sc_Half_all_parts (fun _ _ _ _ _ _ us hl => match us, hl with | [_], _ => rfl) (fun vs H Q E h => ?_) (fun vs H Q E h => ?_)
  · obtain ⟨a, rfl, _⟩ := sp1_len h
    rfl
  obtain ⟨a, rfl, h⟩ := sp1_len h
  intro cdv A outer s E hr
  have hu := hu_of hr
  obtain ⟨ha, dx, l, bx, nx, dn, rfl, f1, k1⟩ := h
  have cH := cl_Half T
  refine ⟨_, (pss_cons (ps_set (i := 1) sc_Half_all_parts.nd rfl (by first | exact .inl rfl | exact .inr rfl) pe_non)
        (pss_cons (ps_if (pt_cmpR op_notN (pe_fld (pv 0) rfl) pe_non (nomark _)) pss_never pss_nil)
        (pss_one (ps_ret (pe_tup (pa_cons (pe_fld (pv 0) rfl) (pa_cons (pe_fld (pv 0) rfl) (pa_cons (pe_fld (pv 0) rfl) (pa_cons (pe_fld (pv 0) rfl) (pa_cons (pe_fld (pv 0) rfl) (pa_cons (pv 1) pa_nil))))))))))), ?_⟩
  refine ⟨_, rfl, ha, _, dx, _, _, rfl, f1, cH, na_Half_before T, l_Half_before, rfl, _, rfl, iteF ?_⟩
  exact ⟨_, rfl, ha, _, dx, _, _, rfl, f1, cH, na_Half_make T, l_Half_make, _, rfl, ha, _, dx, _, _, rfl, f1, cH, na_Half_line T, l_Half_line, _, rfl, ha, _, dx, _, _, rfl, f1, cH, na_Half_boxes T, l_Half_boxes, _, rfl, ha, _, dx, _, _, rfl, f1, cH, na_Half_notes T, l_Half_notes,
    _, rfl, ha, _, dx, _, _, rfl, f1, cH, na_Half_tally T, l_Half_tally, _, rfl, le_size (by show 6 ≤ 100000; decide), k1⟩
/- same: slots 0 one 1 other 2 h -/
theorem sc_same : FnScope ["one", "other", "h"] ["one", "other"] (defScope s_same) := ⟨rfl, rfl, rfl, by decide +kernel, rfl, by decide +kernel, by decide +kernel⟩
theorem ok_same (T : Txt K mg) (c_Half_all_parts : C8.Met P w K mg base 1 (C_Half K) "all_parts" (spAllP K) []) : C8.Cal P w K mg base 2 "same" (spSame K) [] := by
  refine mkCal (f_same T) (g_same T) sc_same (fun _ _ _ _ _ _ us hl => match us, hl with | [_, _], _ => rfl) (fun vs H Q E h => ?_) (fun vs H Q E h => ?_)
  · obtain ⟨a, b, rfl, _⟩ := sp2_len h
    rfl
  obtain ⟨a, b, rfl, h⟩ := sp2_len h
  intro cdv A outer s E hr
  have hu := hu_of hr
  obtain ⟨τ, τ2, m, mp, mp2, ov, ov2, st, rfl, rfl, ok, wt, hM, hN, hdis, k1⟩ := h
  have hM0 := hM
  have hN0 := hN
  obtain ⟨w0, dx, hp, rp, hk, rk, e1, e2, e3, e4, e5, e6, e7, e8⟩ := hM
  obtain ⟨w2, dx2, hp2, rp2, hk2, rk2, g1, g2, g3, g4, g5, g6, g7, g8⟩ := hN
  have cM := cl_Mixed T
  refine ⟨_, (pss_cons (ps_if (pt_cmpR (op_neX hr.units) (pe_fld (pv 0) rfl) (pe_fld (pv 1) rfl) (nomark _)) (pss_one (ps_ret pe_bl)) pss_nil)
        (pss_cons (ps_lock (ps_for PassesOwn.never rfl (pi_keys (pe_fld (pv 0) rfl)) (pg_name (i := 2) sc_same.nd rfl (by first | exact .inl rfl | exact .inr rfl)) (pss_one (ps_if (pt_cmpR (op_neX hr.units) (C8.pe_mt0 c_Half_all_parts hr (by omega) (pe_dget hu (pe_fld (pv 0) rfl) (pv 2) (fun _ _ => rfl))) (C8.pe_mt0 c_Half_all_parts hr (by omega) (pe_dget hu (pe_fld (pv 1) rfl) (pv 2) (fun _ _ => rfl))) (nomark _)) (pss_one (ps_ret pe_bl)) pss_nil))))
        (pss_one (ps_ret pe_bl)))), ?_⟩
  refine ⟨_, rfl, mp, _, dx, _, _, rfl, e1, cM, na_Mixed_rows T, l_Mixed_rows, _, rfl, mp2, _, dx2, _, _, rfl, g1, cM, na_Mixed_rows T, l_Mixed_rows, 11, by decide, ?_, _, rfl, iteF ?_⟩
  · have kl : rk.length = rk2.length := by
      have h1 := congrArg List.length e8.keys
      have h2 := congrArg List.length g8.keys
      rw [List.length_map, List.length_map] at h1 h2
      omega
    refine .inr (.inr ⟨rp, rp2, rk, rk2, rfl, rfl, rd_of e7, rd_of g7, kl, fun p hpm => ?_⟩)
    have hn : (rk.map (·.1)).Nodup := by
      rw [e8.keys]
      have := nd_inr ok.cn
      rw [List.map_map] at this
      exact this
    have hk1 : p.1 ∈ m.chans.map fun c => (Sum.inr c.name : Key) := by
      rw [← e8.keys]
      exact List.mem_map.mpr ⟨p, hpm, rfl⟩
    obtain ⟨c, hc, ec⟩ := List.mem_map.mp hk1
    obtain ⟨a1, xs1, q1, q2, q3, q4⟩ := e8.row c hc
    obtain ⟨a2, xs2, r1, r2, r3, r4⟩ := g8.row c hc
    have hv := valV_key hn hpm
    rw [← ec, q1] at hv
    have hv := Option.some.inj hv
    rw [← ec, ← hv]
    refine ⟨_, r1, .inr (eqS_lst q3 r3 q4 r4 fun d hd => ?_)⟩
    obtain ⟨d0, hd0, rfl⟩ := List.mem_map.mp hd
    exact ltD_dp (vt_dp9 (wt.row c hc d0 hd0))
  refine ⟨hp, _, e4, trivial, fun od => ?_⟩
  have b0 : BtT τ (fun t => t = tgI 1) H (upd H hp (.frz od (.dK hk))) := BtT.put e3 rfl
  have t0 := b0.tk w0
  have bN : Bt (fun a => a = hp) H (upd H hp (.frz od (.dK hk))) := Bt.put rfl
  have hN1 := hN0.other bN (fun a ha => by rw [ha]; exact hdis hp (by rw [e3]; exact fun z => nomatch z)) t0
  have f1 := b0.get e1 e2 (fun z => by cases z)
  refine ⟨_, rfl, mp, _, dx, _, _, rfl, f1, cM, na_Mixed_hands T, l_Mixed_hands, hp, od, rfl, .inl ⟨hk, upd_same, L2.for_it walk_keys (fun i σ H' => Same (upd H hp (.frz od (.dK hk))) H' ∧ ∃ o2, σ = [some (.ref mp), some (.ref mp2), o2]) ⟨Same.refl _, _, rfl⟩ (fun i σ H' _ z => z.1 _ _ upd_same) ?_ ?_⟩⟩
  · rintro i x σ H1 H' hi ⟨s1, o2, rfl⟩ ⟨rfl, k, v, hkv, rfl⟩
    have hk1 : k ∈ m.hands.map fun hd => (Sum.inr hd.name : Key) := by
      rw [← e5.keys]
      exact List.mem_map.mpr ⟨_, List.mem_of_getElem? hkv, rfl⟩
    obtain ⟨hd, hhd, rfl⟩ := List.mem_map.mp hk1
    have hN2 := hN1.same s1
    obtain ⟨ha, hval, hH⟩ := e5.half hd hhd
    have hH := hH.keep b0 t0 (fun z => by cases z) (fun z => by cases z) (fun z => by cases z)
    obtain ⟨t, dxh, bx, nx, kvs, ns, f1', f2, f3, f4, f5, f6, f7⟩ := half_same hH s1
    obtain ⟨w3, dx3, hp3, rp3, hk3, rk3, y1, y2, y3, y4, y5, y6, y7, y8⟩ := hN2
    obtain ⟨ha2, hval2, t2, dxh2, bx2, nx2, kvs2, ns2, z1, z2, z3, z4, z5, z6, z7⟩ := y5.half hd hhd
    refine ⟨_, rfl, mp, _, dx, _, _, rfl, s1 _ _ f1, cM, na_Mixed_hands T, l_Mixed_hands, _, rfl, hp, .ref ha, rfl, hval ▸ dget_s (.inr ⟨od, s1 _ _ upd_same⟩), ha, dxh, _, rfl, f1', n_Half_all_parts, ha, dxh, _, _, _, _, rfl, f1', fun r1 hr1 => ?_⟩
    have u1 : Same H' (upd H' r1 (.tup [.int 1, .int ((st.hand hd.name).line : Nat), .ref bx, .ref nx, .int ((st.hand hd.name).done : Nat), .non])) := same_new hr1
    refine ⟨_, rfl, mp2, _, dx3, _, _, rfl, u1 _ _ y1, cM, na_Mixed_hands T, l_Mixed_hands, _, rfl, hp3, .ref ha2, rfl, hval2 ▸ dget_s (rd_of (u1 _ _ y4)), ha2, dxh2, _, rfl, u1 _ _ z1, n_Half_all_parts, ha2, dxh2, _, _, _, _, rfl, u1 _ _ z1, fun r2 hr2 => ?_⟩
    generalize hH1 : upd H' r1 (.tup [.int 1, .int ((st.hand hd.name).line : Nat), .ref bx, .ref nx, .int ((st.hand hd.name).done : Nat), .non]) = Hr at u1 hr2 ⊢
    have g1r : Hr r1 = some (.tup [.int 1, .int ((st.hand hd.name).line : Nat), .ref bx, .ref nx, .int ((st.hand hd.name).done : Nat), .non]) := by rw [← hH1, upd_same]
    have u2 : Same Hr (upd Hr r2 (.tup [.int 1, .int ((st.hand hd.name).line : Nat), .ref bx2, .ref nx2, .int ((st.hand hd.name).done : Nat), .non])) := same_new hr2
    have u := u1.trans u2
    have he := wt.env hd hhd
    have hnd : ((st.hand hd.name).env.map (·.1)).Nodup := by rw [he.1]; exact he.2.1
    refine ⟨12, by decide, .inr (.inl ⟨r1, r2, _, _, rfl, rfl, SqT.of (u2 _ _ g1r), SqT.of upd_same, .cons (.inl ⟨rfl, rfl⟩) (.cons (.inl ⟨rfl, rfl⟩) (.cons ?_ (.cons ?_ (.cons (.inl ⟨rfl, rfl⟩) (.cons (.inl ⟨rfl, rfl⟩) .nil)))))⟩), _, rfl, iteF ⟨s1.trans u, _, rfl⟩⟩
    · exact .inr (eqS_kv (rd_of (u _ _ f3)) (rd_of (u _ _ z3)) (f4.mono (Tk.of u)) (z4.mono (Tk.of u)) hnd fun p hp => (he.dp p hp).mono (by decide))
    · exact .inr (eqS_lst (u _ _ f6) (u _ _ z6) (f7.mono (Tk.of u)) (z7.mono (Tk.of u)) fun d hd' => by
        obtain ⟨i, rfl, _⟩ := wt.notes hd hhd d hd'
        trivial)
  · rintro σ H' ⟨s1, o2, rfl⟩
    exact ⟨s1 _ _ upd_same, k1 _ (same_lock e4 s1)⟩
end
end SwK
set_option maxHeartbeats 8000000
/-! the mixed house: made -/
namespace SwK
open PySem PySem.Spec PyProof.Rows L2
def spHalf (K : PySem.W.Frag) : Sp := sp3 fun a b c H Q => ∃ x dx n bb kvs, a = .ref x ∧ H x = some (.ins (C_Half K) dx []) ∧ b = .int n ∧ c = .ref bb ∧ Rd H bb (.dK kvs) ∧
  ∀ H' bx nx, Bt (fun a => a = x) H H' → H bx = none → H nx = none → H' x = some (.ins (C_Half K) dx (A_Half (.int 1) (.int n) (.ref bx) (.ref nx) (.int 0) .non)) → H' bx = some (.dK kvs) → H' nx = some (.lst []) → Q .non H'
/-- a stand, new: the noughts of a hand's boxes -/
def noughtE (m : Mk0) (hd : Hn) : List (Str × Da) := hd.boxes.map fun b => (b.1, nt m.kinds 4 b.2)
def spFirstH (K : PySem.W.Frag) : Sp := sp2 fun a b H Q => ∃ m hd, MkOk m ∧ hd ∈ m.hands ∧ Im H a (Mk0.d m) ∧ b = .str hd.name ∧
  ∀ H' x dx bx nx kvs, Same H H' → H x = none → H bx = none → H nx = none → H' x = some (.ins (C_Half K) dx (A_Half (.int 1) (.int 0) (.ref bx) (.ref nx) (.int 0) .non)) → H' bx = some (.dK kvs) → KvI H' kvs (noughtE m hd) → H' nx = some (.lst []) → Q (.ref x) H'
def spMixed (K : PySem.W.Frag) : Sp := sp2 fun a b H Q => ∃ m x dx ov dxo f s wx px lk, a = .ref x ∧ b = .ref ov ∧ x ≠ ov ∧ MkOk m ∧ H x = some (.ins (C_Mixed K) dx []) ∧ H ov = some (.ins (C_Over K) dxo (A_Over f s wx px lk)) ∧ Im H f (Mk0.d m) ∧
  ∀ H' τ, (∀ a t, τ a = some t → a = x ∨ H a = none) → Bt (fun a => a = x) H H' → MixedAt K H' τ x ov m (st0 m) → Q .non H'
theorem new_old {H H' : Hp} (s : Same H H') {a : Addr} (h : H' a = none) : H a = none := by
  cases e : H a with
  | none => rfl
  | some o => rw [s _ _ e] at h; cases h
theorem HandsAt.add {K : PySem.W.Frag} {H : Hp} {τ : Tags} {hk : List (Key × V)} {hs : List Hn} {f : Str → HSt} {hd : Hn} {a : Addr} (x : HandsAt K H τ hk hs f) (hn : ¬ hd.name ∈ hs.map Hn.name) (y : HalfAt K H τ hd.name a (f hd.name)) :
    HandsAt K H τ (putK hk (Sum.inr hd.name) (.ref a)) (hs ++ [hd]) f := by
  have hv : valV hk (Sum.inr hd.name : Key) = none := by
    cases e : valV hk (Sum.inr hd.name : Key) with
    | none => rfl
    | some u =>
      exfalso
      have hm : (Sum.inr hd.name : Key) ∈ hk.map (·.1) := by
        unfold valV at e
        cases q : hk.find? (fun p => decide (p.1 = (Sum.inr hd.name : Key))) with
        | none => rw [q] at e; cases e
        | some p =>
          have h1 := List.mem_of_find?_eq_some q
          have h2 := List.find?_some q
          exact List.mem_map.mpr ⟨p, h1, by simpa using h2⟩
      rw [x.keys] at hm
      obtain ⟨hd', h1, h2⟩ := List.mem_map.mp hm
      exact hn (List.mem_map.mpr ⟨hd', h1, Sum.inr.inj h2⟩)
  refine ⟨by rw [putK_new _ hv, List.map_append, x.keys, List.map_append]; rfl, fun hd' hm => ?_⟩
  rw [valV_put]
  rcases List.mem_append.mp hm with h | h
  · obtain ⟨b, e1, e2⟩ := x.half hd' h
    rw [if_neg (fun z => hn (List.mem_map.mpr ⟨hd', h, Sum.inr.inj z⟩))]
    exact ⟨b, e1, e2⟩
  · have := List.mem_singleton.mp h
    subst this
    rw [if_pos rfl]
    exact ⟨a, rfl, y⟩
theorem RowsAt.add {g : Da → Da} {H : Hp} {τ : Tags} {rk : List (Key × V)} {cs : List Ch} {f : Str → List Da} {c : Ch} {a : Addr} {xs : List V} (x : RowsAt g H τ rk cs f) (hn : ¬ c.name ∈ cs.map Ch.name) (ha : τ a = some (6, c.name)) (e : H a = some (.lst xs)) (i : ImL H xs ((f c.name).map g)) :
    RowsAt g H τ (putK rk (Sum.inr c.name) (.ref a)) (cs ++ [c]) f := by
  have hv : valV rk (Sum.inr c.name : Key) = none := by
    cases e : valV rk (Sum.inr c.name : Key) with
    | none => rfl
    | some u =>
      exfalso
      have hm : (Sum.inr c.name : Key) ∈ rk.map (·.1) := by
        unfold valV at e
        cases q : rk.find? (fun p => decide (p.1 = (Sum.inr c.name : Key))) with
        | none => rw [q] at e; cases e
        | some p =>
          have h1 := List.mem_of_find?_eq_some q
          have h2 := List.find?_some q
          exact List.mem_map.mpr ⟨p, h1, by simpa using h2⟩
      rw [x.keys] at hm
      obtain ⟨hd', h1, h2⟩ := List.mem_map.mp hm
      exact hn (List.mem_map.mpr ⟨hd', h1, Sum.inr.inj h2⟩)
  refine ⟨by rw [putK_new _ hv, List.map_append, x.keys, List.map_append]; rfl, fun c' hm => ?_⟩
  rw [valV_put]
  rcases List.mem_append.mp hm with h | h
  · obtain ⟨b, ys, e1, e2, e3, e4⟩ := x.row c' h
    rw [if_neg (fun z => hn (List.mem_map.mpr ⟨c', h, Sum.inr.inj z⟩))]
    exact ⟨b, ys, e1, e2, e3, e4⟩
  · have := List.mem_singleton.mp h
    subst this
    rw [if_pos rfl]
    exact ⟨a, xs, rfl, ha, e, i⟩
section
variable {P : Program} {w : World} {K : PySem.W.Frag} {mg : Str → Option Value} {base : Heap}
/- Half.__init__: slots 0 self 1 line 2 boxes -/
theorem sc_Half_init : FnScope ["self", "line", "boxes"] ["self", "line", "boxes"] (defScope s_Half_init) := ⟨rfl, rfl, rfl, by decide +kernel, rfl, by decide +kernel, by decide +kernel⟩
theorem ok_Half (T : Txt K mg) : C8.Mak P w K mg base 1 "Half" (C_Half K) (spHalf K) [] := by
  refine mkMak (f_Half_init T) (g_Half T) (mk_Half T) sc_Half_init (fun _ _ _ _ _ _ us hl => match us, hl with | [_, _, _], _ => rfl) (fun vs H Q E h => ?_) (fun vs H Q E h => ?_)
  · obtain ⟨a, b, c, rfl, _⟩ := sp3_len h
    rfl
  obtain ⟨a, b, c, rfl, h⟩ := sp3_len h
  intro cdv A outer s E hr
  have hu := hu_of hr
  obtain ⟨x, dx, n, bb, kvs, rfl, hx, rfl, rfl, hb, k1⟩ := h
  have cl := cl_Half T
  refine ⟨_, (pss_cons (ps_fld (pv 0) (C8.pe_gc rfl (k_ELDER T)) rfl)
        (pss_cons (ps_fld (pv 0) (pv 1) rfl)
        (pss_cons (ps_fld (pv 0) (pe_callTy call_dictD rfl (z_dict T) (by decide +kernel) (pa_cons (pv 2) pa_nil)) rfl)
        (pss_cons (ps_fld (pv 0) (pe_lst pa_nil) rfl)
        (pss_cons (ps_fld (pv 0) pe_int rfl)
        (pss_one (ps_fld (pv 0) pe_non rfl))))))), ?_⟩
  refine ⟨_, rfl, x, _, dx, _, rfl, hx, cl, na_Half_make T, (by show (0 : Nat) < 1000; decide), ?_⟩
  refine ⟨_, rfl, _, rfl, x, _, dx, _, rfl, upd_same, cl, na_Half_line T, lt1000 (by kernel_rfl), ?_⟩
  rw [upd_upd]
  have b1 : Bt (fun a => a = x) H (upd H x (.ins (C_Half K) dx (putF "line" (.int n) (putF "make" (.int 1) [])))) := Bt.put rfl
  have hb' : Rd (upd H x (.ins (C_Half K) dx (putF "line" (.int n) (putF "make" (.int 1) [])))) bb (.dK kvs) := by
    have ne : bb ≠ x := by
      rintro rfl
      rcases hb with hb | ⟨o, hb⟩ <;> (rw [hx] at hb; cases hb)
    rcases hb with hb | ⟨o, hb⟩
    · exact .inl ((upd_ne ne).trans hb)
    · exact .inr ⟨o, (upd_ne ne).trans hb⟩
  refine ⟨_, rfl, bb, kvs, rfl, hb', fun bx hbx => ?_⟩
  have nbx : x ≠ bx := by
    rintro rfl
    rw [upd_same] at hbx
    cases hbx
  have hbn : H bx = none := by rw [upd_ne (Ne.symm nbx)] at hbx; exact hbx
  refine ⟨_, rfl, x, _, dx, _, rfl, (upd_ne nbx).trans upd_same, cl, na_Half_boxes T, lt1000 (by kernel_rfl), le_size (by show 0 ≤ 100000; decide), fun nx hnx => ?_⟩
  have nnx : x ≠ nx := by
    rintro rfl
    rw [upd_same] at hnx
    cases hnx
  have nbn : nx ≠ bx := by
    rintro rfl
    rw [upd_ne (Ne.symm nnx), upd_same] at hnx
    cases hnx
  have hnn : H nx = none := by rw [upd_ne (Ne.symm nnx), upd_ne nbn, upd_ne (Ne.symm nnx)] at hnx; exact hnx
  refine ⟨_, rfl, x, _, dx, _, rfl, (upd_ne nnx).trans upd_same, cl, na_Half_notes T, lt1000 (by kernel_rfl), ?_⟩
  refine ⟨_, rfl, x, _, dx, _, rfl, upd_same, cl, na_Half_tally T, lt1000 (by kernel_rfl), ?_⟩
  rw [upd_upd]
  refine ⟨_, rfl, x, _, dx, _, rfl, upd_same, cl, na_Half_before T, lt1000 (by kernel_rfl), ?_⟩
  rw [upd_upd, i_Half]
  refine k1 _ bx nx ?_ hbn hnn upd_same ?_ ?_
  · intro a o e na
    have na : a ≠ x := na
    have n1 : a ≠ nx := by rintro rfl; rw [hnn] at e; cases e
    have n2 : a ≠ bx := by rintro rfl; rw [hbn] at e; cases e
    rw [upd_ne na, upd_ne n1, upd_ne na, upd_ne n2, upd_ne na]
    exact e
  · rw [upd_ne (Ne.symm nbx), upd_ne (Ne.symm nbn), upd_ne (Ne.symm nbx), upd_same]
  · rw [upd_ne (Ne.symm nnx), upd_same]
/- first_half: slots 0 make 1 h 2 boxes 3 x 4 kind -/
theorem sc_first_half : FnScope ["make", "h", "boxes", "x", "kind"] ["make", "h"] (defScope s_first_half) := ⟨rfl, rfl, rfl, by decide +kernel, rfl, by decide +kernel, by decide +kernel⟩
theorem ok_first_half (T : Txt K mg) (c_hand_of : C8.Cal P w K mg base 2 "hand_of" spHandOf []) (c_nought : C8.Cal P w K mg base 7 "nought" (spNought 4) []) (c_Half : C8.Mak P w K mg base 1 "Half" (C_Half K) (spHalf K) []) : C8.Cal P w K mg base 8 "first_half" (spFirstH K) [] := by
  refine mkCal (f_first_half T) (g_first_half T) sc_first_half (fun _ _ _ _ _ _ us hl => match us, hl with | [_, _], _ => rfl) (fun vs H Q E h => ?_) (fun vs H Q E h => ?_)
  · obtain ⟨a, b, rfl, _⟩ := sp2_len h
    rfl
  obtain ⟨a, b, rfl, h⟩ := sp2_len h
  intro cdv A outer s E hr
  have hu := hu_of hr
  obtain ⟨m, hd, ok, hhd, h1, rfl, k1⟩ := h
  have hk := ok.hands hd hhd
  refine ⟨_, (pss_cons (ps_set (i := 2) sc_first_half.nd rfl (by first | exact .inl rfl | exact .inr rfl) pe_dnewK)
        (pss_cons (ps_for PassesOwn.never rfl (pi_tup (pe_ix ix_tup (C8.pe_c c_hand_of hr (by omega) rfl (pa_cons (pv 0) (pa_cons (pv 1) pa_nil))) pe_int (fun _ _ => rfl))) (pg_tup rfl (pgs_cons (pg_name (i := 3) sc_first_half.nd rfl (by first | exact .inl rfl | exact .inr rfl)) (pgs_cons (pg_name (i := 4) sc_first_half.nd rfl (by first | exact .inl rfl | exact .inr rfl)) pgs_nil))) (pss_one (ps_dput hu (pv 2) (pv 3) (C8.pe_c c_nought hr (by omega) rfl (pa_cons (pe_ix ix_tup (pv 0) pe_int (fun _ _ => rfl)) (pa_cons (pv 4) pa_nil))) rfl)))
        (pss_one (ps_ret (C8.pe_mk c_Half hr (by omega) rfl (pa_cons pe_int (pa_cons (pv 2) pa_nil))))))), ?_⟩
  intro q hq
  have sq : Same H (upd H q (.dK [])) := same_new hq
  obtain ⟨fa, f1, f2, f3, rfl, ef, j1, j2, j3⟩ := im3 h1
  refine ⟨_, rfl, _, rfl, m, hd.name, hd, h1.mono (Tk.of sq), rfl, lookH_of ok.hn hhd, fun v iv => ?_⟩
  obtain ⟨ha, x1, x2, x3, rfl, eh, i1, i2, i3⟩ := im3 iv
  obtain ⟨pa, po, pxs, rfl, ep, _, ip⟩ := im_pt i2
  have tk0 : ∀ {H' : Hp}, Same H H' → Tk (upd H q (.dK [])) H' := fun s b o e t => by
    by_cases hb : b = q
    · subst hb
      rw [upd_same] at e
      cases e
      exact t.elim
    · rw [upd_ne hb] at e
      exact s _ _ e
  refine ⟨ha, _, _, _, rfl, rfl, SqT.of eh, at1, pa, rfl, ⟨_, sqT_frz ep⟩, for_tup (xs := pxs) (fun i σ H' => FilledK H q ((hd.boxes.take i).map fun b => (b.1, nt m.kinds 4 b.2)) H' ∧ ∃ o3 o4, σ = [some (.ref fa), some (.str hd.name), some (.ref q), o3, o4]) ⟨⟨sq, [], upd_same, .nil⟩, _, _, rfl⟩
    (fun i σ H' _ z => sqT_frz (o := po) (tk0 z.1.1 _ _ ep trivial)) ?_ ?_⟩
  · rintro i x σ H' hx ⟨⟨s1, kvs, hd1, kv⟩, o3, o4, rfl⟩
    obtain ⟨pp, hp, ix⟩ := iml_map ip hx
    obtain ⟨xa, x1, x2, rfl, ex, j4, j5⟩ := im2 (ix.mono (tk0 s1))
    cases im_str j4
    cases im_str j5
    refine ⟨xa, _, rfl, SqT.of ex, rfl, _, _, rfl, _, _, rfl, rfl, ?_⟩
    refine ⟨_, rfl, fa, _, _, _, rfl, rfl, SqT.of (s1 _ _ ef), at0, _, rfl, m.kinds, pp.2, j1.mono (Tk.of s1), rfl, ok.ks.num, hk.lev pp (List.mem_of_getElem? hp), (fun kd hkd => Nat.le_trans (ok.ks.few kd hkd) (by decide)), fun H2 u s2 iu => ?_⟩
    have hlen : kvs.length ≤ 1000 := by
      rw [kv.length, List.length_map, List.length_take]
      have := hk.few
      omega
    refine ⟨_, rfl, _, rfl, q, _, rfl, DPut.k (k := Sum.inr pp.1) (s2 _ _ hd1) (lt_size (by omega)), ?_, _, _, rfl⟩
    have z := FilledK.put hq (s1.trans s2) (s2 _ _ hd1) (kv.mono (Tk.of s2)) (x := pp.1) iu
    rw [putE_step (g := fun p : Str × Str => p.1) (f := fun b : Str × Str => nt m.kinds 4 b.2) hk.nd hp] at z
    exact z
  · rintro σ H' ⟨⟨s1, kvs, hd1, kv⟩, o3, o4, rfl⟩
    rw [ip.length, List.length_map, List.take_length] at kv
    refine ⟨_, rfl, fun x dx hx hdx hne => ?_⟩
    have s2 : Same H' (upd (upd H' dx (.own x)) x (.ins (C_Half K) dx [])) := fun a o e => by
      rw [upd_ne (ne_of_none e hx), upd_ne (ne_of_none e hdx)]
      exact e
    refine ⟨x, dx, 0, q, kvs, rfl, upd_same, rfl, rfl, rd_of (s2 _ _ hd1), fun H2 bx nx b hbx hnx e1 e2 e3 => ⟨rfl, ?_⟩⟩
    have s3 : Same H' H2 := fun a o e => b _ _ (s2 _ _ e) (ne_of_none e hx)
    have s4 := s1.trans s3
    exact k1 H2 x dx bx nx kvs s4 (new_old s1 hx) (new_old s1 (new_old s2 hbx)) (new_old s1 (new_old s2 hnx)) e1 e2 (kv.mono (Tk.of s3)) e3
/- Mixed.__init__: slots 0 self 1 over 2 hand 3 channel -/
theorem sc_Mixed_init : FnScope ["self", "over", "hand", "channel"] ["self", "over"] (defScope s_Mixed_init) := ⟨rfl, rfl, rfl, by decide +kernel, rfl, by decide +kernel, by decide +kernel⟩
theorem ok_Mixed (T : Txt K mg) (c_first_half : C8.Cal P w K mg base 8 "first_half" (spFirstH K) []) : C8.Mak P w K mg base 9 "Mixed" (C_Mixed K) (spMixed K) [] := by
  refine mkMak (f_Mixed_init T) (g_Mixed T) (mk_Mixed T) sc_Mixed_init (fun _ _ _ _ _ _ us hl => match us, hl with | [_, _], _ => rfl) (fun vs H Q E h => ?_) (fun vs H Q E h => ?_)
  · obtain ⟨a, b, rfl, _⟩ := sp2_len h
    rfl
  obtain ⟨a, b, rfl, h⟩ := sp2_len h
  intro cdv A outer s E hr
  have hu := hu_of hr
  obtain ⟨m, x, dx, ov, dxo, f, s0, wx, px, lk, rfl, rfl, hxo, ok, hx, ho, hf, k1⟩ := h
  have cl := cl_Mixed T
  have cO := cl_Over T
  obtain ⟨fa, f1, f2, f3, rfl, ef, j1, j2, j3⟩ := im3 hf
  obtain ⟨ga, gxs, rfl, eg, ig⟩ := im_tup j3
  obtain ⟨ca, cxs, rfl, ec, ic⟩ := im_tup j2
  have lg : gxs.length = m.hands.length := by rw [ig.length, List.length_map]
  have lc : cxs.length = m.chans.length := by rw [ic.length, List.length_map]
  refine ⟨_, (pss_cons (ps_fld (pv 0) (pv 1) rfl)
        (pss_cons (ps_fld (pv 0) pe_dnewK rfl)
        (pss_cons (ps_for PassesOwn.never rfl (pi_tup (pe_ix ix_tup (pe_fld (pv 1) rfl) pe_int (fun _ _ => rfl))) (pg_name (i := 2) sc_Mixed_init.nd rfl (by first | exact .inl rfl | exact .inr rfl)) (pss_one (ps_dput hu (pe_fld (pv 0) rfl) (pe_ix ix_tup (pv 2) pe_int (fun _ _ => rfl)) (C8.pe_c c_first_half hr (by omega) rfl (pa_cons (pe_fld (pv 1) rfl) (pa_cons (pe_ix ix_tup (pv 2) pe_int (fun _ _ => rfl)) pa_nil))) rfl)))
        (pss_cons (ps_fld (pv 0) pe_dnewK rfl)
        (pss_one (ps_for PassesOwn.never rfl (pi_tup (pe_ix ix_tup (pe_fld (pv 1) rfl) pe_int (fun _ _ => rfl))) (pg_name (i := 3) sc_Mixed_init.nd rfl (by first | exact .inl rfl | exact .inr rfl)) (pss_one (ps_dput hu (pe_fld (pv 0) rfl) (pe_ix ix_tup (pv 3) pe_int (fun _ _ => rfl)) (pe_lst pa_nil) rfl)))))))), ?_⟩
  refine ⟨_, rfl, _, rfl, x, _, dx, _, rfl, hx, cl, na_Mixed_over T, (by show (0 : Nat) < 1000; decide), ?_⟩
  intro hp hhp
  have nhp : x ≠ hp := by
    rintro rfl
    rw [upd_same] at hhp
    cases hhp
  have hpn : H hp = none := by rw [upd_ne (Ne.symm nhp)] at hhp; exact hhp
  refine ⟨_, rfl, x, _, dx, _, rfl, (upd_ne nhp).trans upd_same, cl, na_Mixed_hands T, lt1000 (by kernel_rfl), ?_⟩
  generalize hH1 : upd (upd (upd H x _) hp _) x _ = H1
  have b1 : Bt (fun a => a = x) H H1 := fun a o e na => by
    have na : a ≠ x := na
    rw [← hH1, upd_ne na, upd_ne (by rintro rfl; rw [hpn] at e; cases e), upd_ne na]
    exact e
  have e1x : H1 x = some (.ins (C_Mixed K) dx (putF "hands" (.ref hp) (putF "over" (.ref ov) []))) := by rw [← hH1, upd_same]
  have e1h : H1 hp = some (.dK []) := by rw [← hH1, upd_ne (Ne.symm nhp), upd_same]
  have nt : ∀ a o, a = x → H a = some o → ¬ TupO o := fun a o ea e => by
    rw [ea, hx] at e
    cases e
    exact ntI
  have ho1 : H1 ov = some (.ins (C_Over K) dxo (A_Over (.ref fa) s0 wx px lk)) := b1 _ _ ho (Ne.symm hxo)
  have nfa : fa ≠ x := by rintro rfl; rw [hx] at ef; cases ef
  have nga : ga ≠ x := by rintro rfl; rw [hx] at eg; cases eg
  have nca : ca ≠ x := by rintro rfl; rw [hx] at ec; cases ec
  have lkh : ∀ {v0 v1 : V}, (putF "hands" v1 (putF "over" v0 [])).lookup ("hands" : Str) = some v1 := by
    intro v0 v1
    kernel_rfl
  refine ⟨_, rfl, ov, _, dxo, _, _, rfl, ho1, cO, na_Over_first T, l_Over_first, fa, _, _, _, rfl, rfl, SqT.of (b1 _ _ ef nfa), at2, ga, rfl, ⟨_, SqT.of (b1 _ _ eg nga)⟩, for_tup (xs := gxs)
    (fun i σ H' => (∃ τ hk, (∀ a t, τ a = some t → a = x ∨ H a = none) ∧ OwnAt H' τ ∧ τ x = some (tgI 0) ∧ τ hp = some (tgI 1) ∧ H' hp = some (.dK hk) ∧ HandsAt K H' τ hk (m.hands.take i) (st0 m).hand) ∧ Bt (fun a => a = x) H H' ∧ H' x = some (.ins (C_Mixed K) dx (putF "hands" (.ref hp) (putF "over" (.ref ov) []))) ∧ ∃ o2 o3, σ = [some (.ref x), some (.ref ov), o2, o3])
    ⟨⟨tagUp (tagUp (fun _ => none) hp (tgI 1)) x (tgI 0), [], fun a t e => ?_, fun a t e => ?_, tagUp_same, (tagUp_ne (Ne.symm nhp)).trans tagUp_same, e1h, ⟨rfl, fun hd hm => by cases hm⟩⟩, b1, e1x, _, _, rfl⟩ (fun i σ H' _ z => SqT.of (z.2.1 _ _ eg nga)) ?_ ?_⟩
  · by_cases q0 : a = x
    · exact .inl q0
    rw [tagUp_ne q0] at e
    by_cases q : a = hp
    · rw [q]
      exact .inr hpn
    · rw [tagUp_ne q] at e
      cases e
  · by_cases q0 : a = x
    · rw [q0]
      exact ⟨_, e1x, ntI⟩
    rw [tagUp_ne q0] at e
    by_cases q : a = hp
    · rw [q]
      exact ⟨_, e1h, ntK⟩
    · rw [tagUp_ne q] at e
      cases e
  · rintro i y σ H' hy ⟨⟨τ, hk, t1, t2, tx, t3, t4, t5⟩, b2, ex, o2, o3, rfl⟩
    have tk2 : Tk H H' := b2.tk nt
    obtain ⟨hd, hhd, iy⟩ := iml_map ig hy
    have hm := List.mem_of_getElem? hhd
    obtain ⟨ya, y1, y2, y3, rfl, ey, n1, n2, n3⟩ := im3 (iy.mono tk2)
    cases im_str n1
    refine ⟨_, rfl, ov, _, dxo, _, _, rfl, b2 _ _ ho (Ne.symm hxo), cO, na_Over_first T, l_Over_first, _, rfl, ya, _, _, _, rfl, rfl, SqT.of ey, at0, m, hd, ok, hm, hf.mono tk2, rfl, fun H2 a da bx nx kvs s2 ha hbx hnx q1 q2 q3 q4 => ?_⟩
    have hlen : hk.length ≤ 1000 := by
      have := congrArg List.length t5.keys
      rw [List.length_map, List.length_map, List.length_take] at this
      have := ok.hfew
      omega
    refine ⟨_, rfl, x, _, dx, _, _, rfl, s2 _ _ ex, cl, na_Mixed_hands T, lkh, _, rfl, ya, _, _, _, rfl, rfl, SqT.of (s2 _ _ ey), at0, hp, _, rfl, DPut.k (k := Sum.inr hd.name) (s2 _ _ t4) (lt_size (by omega)), ?_⟩
    have nab : bx ≠ a := by rintro rfl; rw [q1] at q2; cases q2
    have nan : nx ≠ a := by rintro rfl; rw [q1] at q4; cases q4
    have nbn : nx ≠ bx := by rintro rfl; rw [q2] at q4; cases q4
    have nh : ∀ z, H' z = none → z ≠ hp := fun z hz e => by rw [e, t4] at hz; cases hz
    have nx' : ∀ z, H' z = none → z ≠ x := fun z hz e => by rw [e, ex] at hz; cases hz
    have hn : ∀ z, H' z = none → H z = none := fun z hz => by
      cases e : H z with
      | none => rfl
      | some o =>
        rw [b2 _ _ e (nx' z hz)] at hz
        cases hz
    have w2 : OwnAt H2 τ := t2.same s2
    have up0 : ∀ z t, τ z = some t → tagUp (tagUp (tagUp τ a (3, hd.name)) bx (4, hd.name)) nx (5, hd.name) z = some t := fun z t e => by
      have hz : ∀ y, H' y = none → z ≠ y := fun y hy e' => by
        rw [e'] at e
        rw [t2.none hy] at e
        cases e
      rw [tagUp_ne (hz _ hnx), tagUp_ne (hz _ hbx), tagUp_ne (hz _ ha)]
      exact e
    have w3 : OwnAt H2 (tagUp (tagUp (tagUp τ a (3, hd.name)) bx (4, hd.name)) nx (5, hd.name)) := ((w2.up1 q1 ntI).up1 q2 ntK).up1 q4 ntL
    have ta : tagUp (tagUp (tagUp τ a (3, hd.name)) bx (4, hd.name)) nx (5, hd.name) a = some (3, hd.name) := by rw [tagUp_ne (Ne.symm nan), tagUp_ne (Ne.symm nab), tagUp_same]
    have tb : tagUp (tagUp (tagUp τ a (3, hd.name)) bx (4, hd.name)) nx (5, hd.name) bx = some (4, hd.name) := by rw [tagUp_ne (Ne.symm nbn), tagUp_same]
    have tn : tagUp (tagUp (tagUp τ a (3, hd.name)) bx (4, hd.name)) nx (5, hd.name) nx = some (5, hd.name) := tagUp_same
    have tnew : ∀ z t, tagUp (tagUp (tagUp τ a (3, hd.name)) bx (4, hd.name)) nx (5, hd.name) z = some t → z = x ∨ H z = none := fun z t e => by
      by_cases z1 : z = nx
      · rw [z1]; exact .inr (hn _ hnx)
      rw [tagUp_ne z1] at e
      by_cases z2 : z = bx
      · rw [z2]; exact .inr (hn _ hbx)
      rw [tagUp_ne z2] at e
      by_cases z3 : z = a
      · rw [z3]; exact .inr (hn _ ha)
      rw [tagUp_ne z3] at e
      exact t1 z t e
    generalize tagUp (tagUp (tagUp τ a (3, hd.name)) bx (4, hd.name)) nx (5, hd.name) = τ' at up0 w3 ta tb tn tnew
    have b3 : BtT τ' (fun t => t = tgI 1) H2 (upd H2 hp (.dK (putK hk (Sum.inr hd.name) (.ref a)))) := BtT.put (up0 _ _ t3) rfl
    have tk3 := b3.tk w3
    have hands2 : HandsAt K H2 τ' hk (m.hands.take i) (st0 m).hand := ((t5.keep (T := fun _ => False) (BtT.of s2) (Tk.of s2) (fun _ _ _ _ h => h)).tags up0)
    have half : HalfAt K H2 τ' hd.name a ((st0 m).hand hd.name) := by
      rw [st0_hand ok hm]
      exact ⟨ta, da, bx, nx, kvs, [], q1, tb, q2, q3, tn, q4, .nil⟩
    have nname : ¬ hd.name ∈ (m.hands.take i).map Hn.name := nd_take ok.hn hhd
    refine ⟨⟨τ', _, tnew, w3.put ntK, up0 _ _ tx, up0 _ _ t3, upd_same, ?_⟩, ?_, ?_, _, _, rfl⟩
    · rw [take_snoc hhd]
      exact (hands2.add nname half).keep b3 tk3 (fun g i h3 _ z => by injection z with z _; omega)
    · intro z o e na
      have na : z ≠ x := na
      rw [upd_ne (by rintro rfl; rw [hpn] at e; cases e)]
      exact s2 _ _ (b2 _ _ e na)
    · rw [upd_ne nhp]
      exact s2 _ _ ex
  rintro σ H3 ⟨⟨τ, hk, t1, t2, tx, t3, t4, t5⟩, b2, ex, o2, o3, rfl⟩
  rw [lg, List.take_length] at t5
  intro rp hrp
  have nrx : x ≠ rp := by rintro rfl; rw [ex] at hrp; cases hrp
  have nrh : hp ≠ rp := by rintro rfl; rw [t4] at hrp; cases hrp
  have hrn : H rp = none := by
    cases e : H rp with
    | none => rfl
    | some o => rw [b2 _ _ e (Ne.symm nrx)] at hrp; cases hrp
  have sr : Same H3 (upd H3 rp (.dK [])) := same_new hrp
  refine ⟨_, rfl, x, _, dx, _, rfl, sr _ _ ex, cl, na_Mixed_rows T, lt1000 (by kernel_rfl), ?_⟩
  rw [i_Mixed]
  generalize hH4 : upd (upd H3 rp _) x _ = H4
  have b4 : Bt (fun a => a = x) H H4 := fun a o e na => by
    have na : a ≠ x := na
    rw [← hH4, upd_ne na]
    exact sr _ _ (b2 _ _ e na)
  have e4x : H4 x = some (.ins (C_Mixed K) dx (A_Mixed (.ref ov) (.ref hp) (.ref rp))) := by rw [← hH4, upd_same]
  have e4r : H4 rp = some (.dK []) := by rw [← hH4, upd_ne (Ne.symm nrx), upd_same]
  have w3 : OwnAt H4 τ := by
    rw [← hH4]
    exact (t2.same sr).put ntI
  have b34 : BtT τ (fun t => t = tgI 0) H3 H4 := by
    rw [← hH4]
    exact (BtT.of sr).trans (BtT.put tx rfl)
  have tk34 := b34.tk t2
  have hands4 : HandsAt K H4 τ hk m.hands (st0 m).hand := t5.keep b34 tk34 (fun g i h3 _ z => by injection z with z _; omega)
  have e4h : H4 hp = some (.dK hk) := b34.get t4 t3 (fun z => by cases z)
  have ext4 : ∀ z t, τ z = some t → tagUp τ rp (tgI 2) z = some t := fun z t e => by
    rw [tagUp_ne (by rintro rfl; rw [t2.none hrp] at e; cases e)]
    exact e
  refine ⟨_, rfl, ov, _, dxo, _, _, rfl, b4 _ _ ho (Ne.symm hxo), cO, na_Over_first T, l_Over_first, fa, _, _, _, rfl, rfl, SqT.of (b4 _ _ ef nfa), at1, ca, rfl, ⟨_, SqT.of (b4 _ _ ec nca)⟩, for_tup (xs := cxs)
    (fun i σ H' => (∃ τ rk, (∀ a t, τ a = some t → a = x ∨ H a = none) ∧ OwnAt H' τ ∧ τ x = some (tgI 0) ∧ τ hp = some (tgI 1) ∧ τ rp = some (tgI 2) ∧ H' hp = some (.dK hk) ∧ HandsAt K H' τ hk m.hands (st0 m).hand ∧ H' rp = some (.dK rk) ∧ RowsAt ltD H' τ rk (m.chans.take i) (st0 m).row) ∧
      Bt (fun a => a = x) H H' ∧ H' x = some (.ins (C_Mixed K) dx (A_Mixed (.ref ov) (.ref hp) (.ref rp))) ∧ ∃ o3, σ = [some (.ref x), some (.ref ov), o2, o3])
    ⟨⟨tagUp τ rp (tgI 2), [], fun a t e => ?_, w3.up1 e4r ntK, ext4 _ _ tx, ext4 _ _ t3, tagUp_same, e4h, hands4.tags ext4, e4r, ⟨rfl, fun c hc => by cases hc⟩⟩, b4, e4x, _, rfl⟩ (fun i σ H' _ z => SqT.of (z.2.1 _ _ ec nca)) ?_ ?_⟩
  · by_cases q : a = rp
    · rw [q]
      exact .inr hrn
    · rw [tagUp_ne q] at e
      exact t1 a t e
  · rintro i y σ H' hy ⟨⟨τ, rk, t1, t2, tx, t3, t6, t4, t5, t7, t8⟩, b2, ex, o3, rfl⟩
    have tk2 : Tk H H' := b2.tk nt
    obtain ⟨c, hcc, iy⟩ := iml_map ic hy
    obtain ⟨ya, y1, y2, y3, y4, rfl, ey, n1, n2, n3, n4⟩ := im4 (iy.mono tk2)
    cases im_str n1
    refine ⟨le_size (by show 0 ≤ 100000; decide), fun l hl => ?_⟩
    have s2 : Same H' (upd H' l (.lst [])) := same_new hl
    have hlen : rk.length ≤ 1000 := by
      have := congrArg List.length t8.keys
      rw [List.length_map, List.length_map, List.length_take] at this
      have := ok.cfew
      omega
    have lkr : ∀ {v0 v1 v2 : V}, (A_Mixed v0 v1 v2).lookup ("rows" : Str) = some v2 := l_Mixed_rows
    refine ⟨_, rfl, x, _, dx, _, _, rfl, s2 _ _ ex, cl, na_Mixed_rows T, lkr, _, rfl, ya, _, _, _, rfl, rfl, SqT.of (s2 _ _ ey), at0, rp, _, rfl, DPut.k (k := Sum.inr c.name) (s2 _ _ t7) (lt_size (by omega)), ?_⟩
    have nlx : l ≠ x := by rintro rfl; rw [ex] at hl; cases hl
    have nlr : l ≠ rp := by rintro rfl; rw [t7] at hl; cases hl
    have hln : H l = none := by
      cases e : H l with
      | none => rfl
      | some o => rw [b2 _ _ e nlx] at hl; cases hl
    have up0 : ∀ z t, τ z = some t → tagUp τ l (6, c.name) z = some t := fun z t e => by
      rw [tagUp_ne (by rintro rfl; rw [t2.none hl] at e; cases e)]
      exact e
    have w3 : OwnAt (upd H' l (.lst [])) (tagUp τ l (6, c.name)) := (t2.same s2).up1 upd_same ntL
    have b3 : BtT (tagUp τ l (6, c.name)) (fun t => t = tgI 2) (upd H' l (.lst [])) (upd (upd H' l (.lst [])) rp (.dK (putK rk (Sum.inr c.name) (.ref l)))) := BtT.put (up0 _ _ t6) rfl
    have tk3 := b3.tk w3
    have hands2 : HandsAt K (upd H' l (.lst [])) (tagUp τ l (6, c.name)) hk m.hands (st0 m).hand := ((t5.keep (T := fun _ => False) (BtT.of s2) (Tk.of s2) (fun _ _ _ _ h => h)).tags up0)
    have rows2 : RowsAt ltD (upd H' l (.lst [])) (tagUp τ l (6, c.name)) rk (m.chans.take i) (st0 m).row := ((t8.keep (T := fun _ => False) (BtT.of s2) (Tk.of s2) (fun _ h => h)).tags up0)
    have nname : ¬ c.name ∈ (m.chans.take i).map Ch.name := nd_take ok.cn hcc
    refine ⟨⟨tagUp τ l (6, c.name), _, fun a t e => ?_, w3.put ntK, up0 _ _ tx, up0 _ _ t3, up0 _ _ t6, b3.get (s2 _ _ t4) (up0 _ _ t3) (fun z => by cases z), hands2.keep b3 tk3 (fun g i h3 _ z => by injection z with z _; omega), upd_same, ?_⟩, ?_, ?_, _, rfl⟩
    · by_cases q : a = l
      · rw [q]
        exact .inr hln
      · rw [tagUp_ne q] at e
        exact t1 a t e
    · rw [take_snoc hcc]
      exact (rows2.add nname tagUp_same upd_same .nil).keep b3 tk3 (fun c z => by injection z with z _; omega)
    · intro z o e na
      have na : z ≠ x := na
      rw [upd_ne (by rintro rfl; rw [hrn] at e; cases e)]
      exact s2 _ _ (b2 _ _ e na)
    · rw [upd_ne nrx]
      exact s2 _ _ ex
  · rintro σ H' ⟨⟨τ, rk, t1, t2, tx, t3, t6, t4, t5, t7, t8⟩, b2, ex, o3, rfl⟩
    rw [lc, List.take_length] at t8
    exact k1 H' τ t1 b2 ⟨t2, dx, hp, rp, hk, rk, ex, tx, t3, t4, t5, t6, t7, t8⟩
end
end SwK
set_option maxHeartbeats 8000000
/-! the plain house: a hand's step -/
namespace SwK
open PySem PySem.Spec PyProof.Rows L2
def leadD (i : Nat) : Rw → Da
  | .go k => .tup [.int (k : Nat)]
  | .ite _ k => .tup [.int (k : Nat), .int ((i + 1 : Nat) : Int)]
  | .fin => .tup []
  | _ => .tup [.int ((i + 1 : Nat) : Int)]
def leadsD (rs : List Rw) : List Da := rs.mapIdx leadD
def TL (h : Str) (t : Tg) : Prop := (3 ≤ t.1 ∧ t.1 ≤ 5 ∧ t.2 = h) ∨ t.1 = 6
section
variable (K : PySem.W.Frag)
/-- a hand alone; D: the channels that are shared already -/
structure LoneAt (H : Hp) (τ : Tags) (ln : Str → Addr) (m : Mk0) (D : List Ch) (hd : Hn) (a : Addr) (s : HSt) : Prop where
  tag : τ a = some (3, hd.name)
  rest : ∃ dx ka ra la bx cx gx nx kvs ns ck gk lxs,
    H a = some (.ins (C_Lone K) dx (A_Lone ka ra (.ref la) (.int (s.line : Nat)) (.ref bx) (.ref cx) (.ref gx) (.ref nx) (.int (s.done : Nat)))) ∧
    Im H ka (kindsD m.kinds) ∧ Im H ra (.tup (hd.rows.map Rw.d)) ∧ τ la = some (7, hd.name) ∧ H la = some (.lst lxs) ∧ ImL H lxs (leadsD hd.rows) ∧
    τ bx = some (4, hd.name) ∧ H bx = some (.dK kvs) ∧ KvI H kvs s.env ∧ τ nx = some (5, hd.name) ∧ H nx = some (.lst ns) ∧ ImL H ns s.notes ∧
    τ cx = some (8, hd.name) ∧ H cx = some (.dK ck) ∧ τ gx = some (9, hd.name) ∧ H gx = some (.dK gk) ∧ gk.length ≤ 20 + D.length ∧
    (∀ ch ∈ m.chans, ch.dst = hd.name → valV ck (Sum.inr ch.name) = some (.ref (ln ch.name))) ∧ (∀ ch ∈ D, ch.src = hd.name → valV gk (Sum.inr ch.name) = some (.ref (ln ch.name)))
end
def LinesAt (H : Hp) (τ : Tags) (ln : Str → Addr) (m : Mk0) (f : Str → List Da) : Prop := ∀ ch ∈ m.chans, τ (ln ch.name) = some (6, ch.name) ∧ ∃ xs, H (ln ch.name) = some (.lst xs) ∧ ImL H xs (f ch.name)
section
variable {K : PySem.W.Frag} {H H' : Hp} {τ τ' : Tags} {T : Tg → Prop} {ln : Str → Addr} {m : Mk0} {D : List Ch}
theorem LoneAt.keep {hd : Hn} {a : Addr} {s : HSt} (b : BtT τ T H H') (k : Tk H H') (n : ∀ i, 3 ≤ i → i ≠ 6 → ¬ T (i, hd.name)) (x : LoneAt K H τ ln m D hd a s) : LoneAt K H' τ ln m D hd a s := by
  obtain ⟨t, dx, ka, ra, la, bx, cx, gx, nx, kvs, ns, ck, gk, lxs, e1, e2, e3, e4, e5, e6, e7, e8, e9, e10, e11, e12, e13, e14, e15, e16, e17, e18, e19⟩ := x
  exact ⟨t, dx, ka, ra, la, bx, cx, gx, nx, kvs, ns, ck, gk, lxs, b.get e1 t (n 3 (by decide) (by decide)), e2.mono k, e3.mono k, e4, b.get e5 e4 (n 7 (by decide) (by decide)), e6.mono k, e7, b.get e8 e7 (n 4 (by decide) (by decide)), e9.mono k, e10, b.get e11 e10 (n 5 (by decide) (by decide)), e12.mono k,
    e13, b.get e14 e13 (n 8 (by decide) (by decide)), e15, b.get e16 e15 (n 9 (by decide) (by decide)), e17, e18, e19⟩
theorem LoneAt.same {hd : Hn} {a : Addr} {s : HSt} (q : Same H H') (x : LoneAt K H τ ln m D hd a s) : LoneAt K H' τ ln m D hd a s := x.keep (T := fun _ => False) (BtT.of q) (Tk.of q) fun _ _ _ h => h
theorem LinesAt.keep {f : Str → List Da} (b : BtT τ T H H') (k : Tk H H') (n : ∀ c, ¬ T (6, c)) (x : LinesAt H τ ln m f) : LinesAt H' τ ln m f := fun ch hc => by
  obtain ⟨e1, xs, e2, e3⟩ := x ch hc
  exact ⟨e1, xs, b.get e2 e1 (n _), e3.mono k⟩
theorem LinesAt.same {f : Str → List Da} (q : Same H H') (x : LinesAt H τ ln m f) : LinesAt H' τ ln m f := x.keep (T := fun _ => False) (BtT.of q) (Tk.of q) fun _ h => h
/-- one line's list changed -/
theorem LinesAt.upd {st : MSt} {c0 : Str} {l : List Da} {xs : List V} (b : BtT τ T H H') (k : Tk H H') (n : ∀ c, c ≠ c0 → ¬ T (6, c)) (x : LinesAt H τ ln m st.row) (e : H' (ln c0) = some (.lst xs)) (i : ImL H' xs l) : LinesAt H' τ ln m (st.rowAt c0 l).row := fun ch hc => by
  obtain ⟨e1, ys, e2, e3⟩ := x ch hc
  by_cases z : ch.name = c0
  · rw [z] at e1 ⊢
    rw [MSt.row_same]
    exact ⟨e1, xs, e, i⟩
  · rw [MSt.row_ne z]
    exact ⟨e1, ys, b.get e2 e1 (n _ z), e3.mono k⟩
end
section
variable (K : PySem.W.Frag)
def spLVal : Sp := sp2 fun a b H Q => ∃ ad dx ka ra la at' bx cx gx nx dn ks ρ d v kvs, a = .ref ad ∧ H ad = some (.ins (C_Lone K) dx (A_Lone ka ra la at' (.ref bx) cx gx nx dn)) ∧ Im H ka (kindsD ks) ∧ Im H b d ∧ Rd H bx (.dK kvs) ∧ KvI H kvs ρ ∧ Ev ks 8 ρ d v ∧
  ∀ H' x, Same H H' → Im H' x v → Q x H'
def spLStep : Sp := sp1 fun a H Q => ∃ τ ln m hd st row res st' ad, a = .ref ad ∧ MkOk m ∧ hd ∈ m.hands ∧ OwnAt H τ ∧ LoneAt K H τ ln m m.chans hd ad (st.hand hd.name) ∧ LinesAt H τ ln m st.row ∧ WT m st ∧ Sz m 1000 st ∧ hd.rows[(st.hand hd.name).line]? = some row ∧ AStep m st hd.name row res st' ∧
  ∀ H', OwnAt H' τ → BtT τ (TL hd.name) H H' → LoneAt K H' τ ln m m.chans hd ad (st'.hand hd.name) → LinesAt H' τ ln m st'.row → Q (.bl res) H'
end
theorem lead_get {rs : List Rw} {i : Nat} {r : Rw} (h : rs[i]? = some r) : (leadsD rs)[i]? = some (leadD i r) := by
  unfold leadsD
  rw [List.getElem?_mapIdx, h]
  rfl
theorem seq0 {n : Nat} : seqIndex? 0 (n + 1) = some 0 := by
  unfold seqIndex?
  have : (0 : Int) < ((n + 1 : Nat) : Int) := by omega
  simp [this]
theorem lone_inj {C dx dx2 : Addr} {H1 : Hp} {ad : Addr} {ka ra la at' bx cx gx nx dn ka' ra' la' bx' cx' gx' nx' at2 dn2 n' d' : V} (h : H1 ad = some (.ins C dx (A_Lone ka ra la at' bx cx gx nx dn))) (h' : H1 ad = some (.ins C dx2 (A_Lone ka' ra' la' at2 bx' cx' gx' nx' dn2))) :
    A_Lone ka ra la n' bx cx gx nx d' = A_Lone ka' ra' la' n' bx' cx' gx' nx' d' := by
  rw [h] at h'
  injection h' with h'
  injection h' with _ _ h'
  unfold A_Lone at h' ⊢
  injection h' with q1 h'
  injection h' with q2 h'
  injection h' with q3 h'
  injection h' with q4 h'
  injection h' with q5 h'
  injection h' with q6 h'
  injection h' with q7 h'
  injection h' with q8 h'
  injection q1 with _ q1
  injection q2 with _ q2
  injection q3 with _ q3
  injection q5 with _ q5
  injection q6 with _ q6
  injection q7 with _ q7
  injection q8 with _ q8
  rw [q1, q2, q3, q5, q6, q7, q8]
section
variable {P : Program} {w : World} {K : PySem.W.Frag} {mg : Str → Option Value} {base : Heap}
/- Lone.value: slots 0 self 1 term -/
theorem sc_Lone_value : FnScope ["self", "term"] ["self", "term"] (defScope s_Lone_value) := ⟨rfl, rfl, rfl, by decide +kernel, rfl, by decide +kernel, by decide +kernel⟩
theorem ok_Lone_value (T : Txt K mg) (c_worth : C8.Cal P w K mg base 20 "worth" (spWorth 8) []) : C8.Met P w K mg base 21 (C_Lone K) "value" (spLVal K) [] := by
  refine mkMet (f_Lone_value T) (cl_Lone T) (me_Lone_value T) sc_Lone_value (fun _ _ _ _ _ _ us hl => match us, hl with | [_, _], _ => rfl) (fun vs H Q E h => ?_) (fun vs H Q E h => ?_)
  · obtain ⟨a, b, rfl, _⟩ := sp2_len h
    rfl
  obtain ⟨a, b, rfl, h⟩ := sp2_len h
  intro cdv A outer s E hr
  have hu := hu_of hr
  obtain ⟨ad, dx, ka, ra, la, at', bx, cx, gx, nx, dn, ks, ρ, d, v, kvs, rfl, e1, hk, hd, hb, hkv, hev, k1⟩ := h
  have cL := cl_Lone T
  refine ⟨_, (pss_one (ps_ret (C8.pe_c c_worth hr (by omega) rfl (pa_cons (pe_fld (pv 0) rfl) (pa_cons (pv 1) (pa_cons (pe_fld (pv 0) rfl) pa_nil)))))), ?_⟩
  exact ⟨_, rfl, ad, _, dx, _, _, rfl, e1, cL, na_Lone_kinds T, l_Lone_kinds, _, rfl, _, rfl, ad, _, dx, _, _, rfl, e1, cL, na_Lone_held T, l_Lone_held, ks, ρ, d, v, kvs, bx, hk, hd, rfl, hb, hkv, hev, k1⟩
/- Lone.step: slots 0 self 1 row 2 way -/
theorem sc_Lone_step : FnScope ["self", "row", "way"] ["self"] (defScope s_Lone_step) := ⟨rfl, rfl, rfl, by decide +kernel, rfl, by decide +kernel, by decide +kernel⟩
theorem ok_Lone_step (T : Txt K mg) (c_Lone_value : C8.Met P w K mg base 21 (C_Lone K) "value" (spLVal K) []) : C8.Met P w K mg base 22 (C_Lone K) "step" (spLStep K) [] := by
  refine mkMet (f_Lone_step T) (cl_Lone T) (me_Lone_step T) sc_Lone_step (fun _ _ _ _ _ _ us hl => match us, hl with | [_], _ => rfl) (fun vs H Q E h => ?_) (fun vs H Q E h => ?_)
  · obtain ⟨a, rfl, _⟩ := sp1_len h
    rfl
  obtain ⟨a, rfl, h⟩ := sp1_len h
  intro cdv A outer s E hr
  have hu := hu_of hr
  obtain ⟨τ, ln, m, hd, st, row, res, st', ad, rfl, ok, hhd, w0, hL, hN, wt, sz, hrow, hstep, k1⟩ := h
  have hL0 := hL
  obtain ⟨t, dx, ka, ra, la, bx, cx, gx, nx, kvs, ns, ck, gk, lxs, f1, f2, f3, f4, f5, f6, f7, f8, f9, f10, f11, f12, f13, f14, f15, f16, f17, f18, f19⟩ := hL
  have cL := cl_Lone T
  have hdk := ok.hands hd hhd
  have henv := wt.env hd hhd
  have hel : (st.hand hd.name).env.length ≤ 1000 := by rw [henv.len]; have := hdk.few; omega
  have rok := hdk.rows row (List.mem_of_getElem? hrow)
  obtain ⟨rq, rxs, rfl, er, ir⟩ := im_tup f3
  obtain ⟨rv, hrv, irv⟩ := ir.get (j := (st.hand hd.name).line) (d := row.d) (by rw [List.getElem?_map, hrow]; rfl)
  obtain ⟨p, pxs, rfl, ep⟩ := rw_head irv
  -- how every step ends
  have fin : ∀ (H1 : Hp) (s1 : HSt) (fr : Str → List Da), OwnAt H1 τ → BtT τ (TL hd.name) H H1 → LoneAt K H1 τ ln m m.chans hd ad s1 → LinesAt H1 τ ln m fr → ∀ (dx2 : Addr) (n : Nat) (u : List (Str × V)),
      (∀ ka ra la bx cx gx nx, H1 ad = some (.ins (C_Lone K) dx2 (A_Lone ka ra (.ref la) (.int (s1.line : Nat)) (.ref bx) (.ref cx) (.ref gx) (.ref nx) (.int (s1.done : Nat)))) → u = A_Lone ka ra (.ref la) (.int (n : Nat)) (.ref bx) (.ref cx) (.ref gx) (.ref nx) (.int ((s1.done : Nat) + 1))) →
      (∃ fs, H1 ad = some (.ins (C_Lone K) dx2 fs)) →
      st'.hand hd.name = ⟨n, s1.env, s1.notes, s1.done + 1⟩ → st'.row = fr → res = true → Q (.bl true) (upd H1 ad (.ins (C_Lone K) dx2 u)) := by
    intro H1 s1 fr w1 b1 l1 n1 dx2 n u hu' hfs eh er' eres
    subst eres
    obtain ⟨t', dy, ka', ra', la', bx', cx', gx', nx', kvs', ns', ck', gk', lxs', g1, g2, g3, g4, g5, g6, g7, g8, g9, g10, g11, g12, g13, g14, g15, g16, g17, g18, g19⟩ := l1
    obtain ⟨fs, hfs⟩ := hfs
    have edx : dy = dx2 := by
      rw [g1] at hfs
      injection hfs with hfs
      injection hfs
    subst edx
    have eu := hu' _ _ _ _ _ _ _ g1
    subst eu
    have b2 : BtT τ (TL hd.name) H1 (upd H1 ad (.ins (C_Lone K) dy (A_Lone ka' ra' (.ref la') (.int (n : Nat)) (.ref bx') (.ref cx') (.ref gx') (.ref nx') (.int ((s1.done : Nat) + 1))))) := BtT.put t' (.inl ⟨Nat.le_refl _, (show 3 ≤ 5 by decide), rfl⟩)
    have tk := b2.tk w1
    have ne : ∀ {z : Addr} {i : Nat}, τ z = some (i, hd.name) → i ≠ 3 → z ≠ ad := fun h1 h2 e => by
      rw [e, t'] at h1
      injection h1 with h1
      injection h1 with h1 _
      exact h2 h1.symm
    refine k1 _ (w1.put ntI) (b1.trans b2) ?_ ?_
    · rw [eh]
      exact ⟨t', dy, ka', ra', la', bx', cx', gx', nx', kvs', ns', ck', gk', lxs', upd_same, g2.mono tk, g3.mono tk, g4, (upd_ne (ne g4 (by decide))).trans g5, g6.mono tk, g7, (upd_ne (ne g7 (by decide))).trans g8, g9.mono tk, g10, (upd_ne (ne g10 (by decide))).trans g11, g12.mono tk,
        g13, (upd_ne (ne g13 (by decide))).trans g14, g15, (upd_ne (ne g15 (by decide))).trans g16, g17, g18, g19⟩
    · rw [er']
      intro ch hc
      obtain ⟨q1, xs, q2, q3⟩ := n1 ch hc
      refine ⟨q1, xs, ?_, q3.mono tk⟩
      rw [upd_ne]
      · exact q2
      · intro z
        rw [z, t'] at q1
        cases q1
  refine ⟨_, (pss_cons (ps_set (i := 1) sc_Lone_step.nd rfl (by first | exact .inl rfl | exact .inr rfl) (pe_ix ix_tup (pe_fld (pv 0) rfl) (pe_fld (pv 0) rfl) (fun _ _ => rfl)))
        (pss_cons (ps_if (PW.pt (pw_or (pt_cmpR op_eq (pe_ix ix_tup (pv 1) pe_int (fun _ _ => rfl)) pe_str (nomark _)) (pw_or1 (PW.pt (pw_and (pt_cmpR op_eq (pe_ix ix_tup (pv 1) pe_int (fun _ _ => rfl)) pe_str (nomark _)) (pw_and1 (pt_cmpR (op_eqNil hr.units) (pe_dget hu (pe_fld (pv 0) rfl) (pe_ix ix_tup (pv 1) pe_int (fun _ _ => rfl)) (fun _ _ => rfl)) (pe_lst pa_nil) (nomark _)))))))) (pss_one (ps_ret pe_bl)) pss_nil)
        (pss_cons (ps_set (i := 2) sc_Lone_step.nd rfl (by first | exact .inl rfl | exact .inr rfl) pe_int)
        (pss_cons (ps_if (pt_cmpR op_eq (pe_ix ix_tup (pv 1) pe_int (fun _ _ => rfl)) pe_str (nomark _)) (pss_one (ps_dput hu (pe_fld (pv 0) rfl) (pe_ix ix_tup (pv 1) pe_int (fun _ _ => rfl)) (pe_bm PySem.F.plainAttrs_list PySem.F.slot_list_pop PySem.F.type_list_pop mt_popAt (pe_dget hu (pe_fld (pv 0) rfl) (pe_ix ix_tup (pv 1) pe_int (fun _ _ => rfl)) (fun _ _ => rfl)) (pa_cons pe_int pa_nil)) rfl)) (pss_one (ps_if (pt_cmpR op_eq (pe_ix ix_tup (pv 1) pe_int (fun _ _ => rfl)) pe_str (nomark _)) (pss_one (ps_expr (pe_bm PySem.F.plainAttrs_list PySem.F.slot_list_append PySem.F.type_list_append mt_append (pe_dget hu (pe_fld (pv 0) rfl) (pe_ix ix_tup (pv 1) pe_int (fun _ _ => rfl)) (fun _ _ => rfl)) (pa_cons (C8.pe_mt c_Lone_value hr (by omega) (pv 0) (pa_cons (pe_ix ix_tup (pv 1) pe_int (fun _ _ => rfl)) pa_nil)) pa_nil)))) (pss_one (ps_if (pt_cmpR op_eq (pe_ix ix_tup (pv 1) pe_int (fun _ _ => rfl)) pe_str (nomark _)) (pss_one (ps_dput hu (pe_fld (pv 0) rfl) (pe_ix ix_tup (pv 1) pe_int (fun _ _ => rfl)) (C8.pe_mt c_Lone_value hr (by omega) (pv 0) (pa_cons (pe_ix ix_tup (pv 1) pe_int (fun _ _ => rfl)) pa_nil)) rfl)) (pss_one (ps_if (pt_cmpR op_eq (pe_ix ix_tup (pv 1) pe_int (fun _ _ => rfl)) pe_str (nomark _)) (pss_one (ps_expr (pe_bm PySem.F.plainAttrs_list PySem.F.slot_list_append PySem.F.type_list_append mt_append (pe_fld (pv 0) rfl) (pa_cons (C8.pe_mt c_Lone_value hr (by omega) (pv 0) (pa_cons (pe_ix ix_tup (pv 1) pe_int (fun _ _ => rfl)) pa_nil)) pa_nil)))) (pss_one (ps_if (pt_cmpR op_eq (pe_ix ix_tup (pv 1) pe_int (fun _ _ => rfl)) pe_str (nomark _)) (pss_one (ps_set (i := 2) sc_Lone_step.nd rfl (by first | exact .inl rfl | exact .inr rfl) (pe_callTy call_int1 rfl (z_int T) (by decide +kernel) (pa_cons (pe_cmpR op_eq (C8.pe_mt c_Lone_value hr (by omega) (pv 0) (pa_cons (pe_ix ix_tup (pv 1) pe_int (fun _ _ => rfl)) pa_nil)) pe_int (nomark _)) pa_nil)))) pss_nil)))))))))
        (pss_cons (ps_fld (pv 0) (pe_ix ix_tup (pe_ix ix_list (pe_fld (pv 0) rfl) (pe_fld (pv 0) rfl) (fun _ _ => rfl)) (pv 2) (fun _ _ => rfl)) rfl)
        (pss_cons (ps_fldaug (pv 0) pe_int in_add)
        (pss_one (ps_ret pe_bl)))))))), ?_⟩
  refine ⟨_, rfl, ad, _, dx, _, _, rfl, f1, cL, na_Lone_rows T, l_Lone_rows, _, rfl, ad, _, dx, _, _, rfl, f1, cL, na_Lone_at T, l_Lone_at, rq, _, _, _, rfl, rfl, SqT.of er, atI_nat hrv, ?_⟩
  refine ⟨_, rfl, p, _, _, _, rfl, rfl, SqT.of ep, at0, rfl, _, rfl, ?_⟩
  cases row with
  | fin =>
    cases hstep
    exact ifTD (k1 _ w0 (BtT.of (Same.refl _)) hL0 hN)
  | go k =>
    cases hstep
    refine ifFD (show ¬ ("go" : Str) = "end" by decide +kernel) ⟨_, rfl, p, _, _, _, rfl, rfl, SqT.of ep, at0, rfl, _, rfl, ifFD (show ¬ ("go" : Str) = "take" by decide +kernel) (iteF ?_)⟩
    refine ⟨_, rfl, p, _, _, _, rfl, rfl, SqT.of ep, at0, rfl, _, rfl, ifFD (show ¬ ("go" : Str) = "take" by decide +kernel) ?_⟩
    refine ⟨_, rfl, p, _, _, _, rfl, rfl, SqT.of ep, at0, rfl, _, rfl, ifFD (show ¬ ("go" : Str) = "send" by decide +kernel) ?_⟩
    refine ⟨_, rfl, p, _, _, _, rfl, rfl, SqT.of ep, at0, rfl, _, rfl, ifFD (show ¬ ("go" : Str) = "set" by decide +kernel) ?_⟩
    refine ⟨_, rfl, p, _, _, _, rfl, rfl, SqT.of ep, at0, rfl, _, rfl, ifFD (show ¬ ("go" : Str) = "tell" by decide +kernel) ?_⟩
    refine ⟨_, rfl, p, _, _, _, rfl, rfl, SqT.of ep, at0, rfl, _, rfl, ifFD (show ¬ ("go" : Str) = "if" by decide +kernel) ?_⟩
    obtain ⟨t, dx, ka, ra, la, bx, cx, gx, nx, kvs, ns, ck, gk, lxs, f1, f2, f3, f4, f5, f6, f7, f8, f9, f10, f11, f12, f13, f14, f15, f16, f17, f18, f19⟩ := id hL0
    obtain ⟨lv, hlv, ilv⟩ := f6.get (lead_get hrow)
    obtain ⟨lq, lys, rfl, elq, iq⟩ := im_tup (show Im _ lv (.tup [.int (k : Nat)]) from ilv)
    obtain ⟨l0, lr, rfl, il, _⟩ := iml_cons iq
    cases im_int il
    refine ⟨_, rfl, ad, _, dx, _, _, rfl, f1, cL, na_Lone_leads T, l_Lone_leads, _, rfl, ad, _, dx, _, _, rfl, f1, cL, na_Lone_at T, l_Lone_at, la, _, _, _, rfl, rfl, SqL.of f5, atI_nat hlv, _, rfl, lq, _, _, _, rfl, rfl, SqT.of elq, at0, _, rfl, ad, _, dx, _, rfl, f1, cL, na_Lone_at T, len_Lone, ?_⟩
    rw [p_Lone_at]
    refine ⟨_, rfl, ad, _, dx, _, _, rfl, upd_same, cL, na_Lone_done T, l_Lone_done, _, _, rfl, rfl, dx, _, upd_same, len_Lone, ?_⟩
    rw [p_Lone_done, upd_upd]
    exact fin _ (st.hand hd.name) st.row w0 (BtT.of (Same.refl _)) hL0 hN dx k _ (fun ka' ra' la' bx' cx' gx' nx' e => lone_inj f1 e) ⟨_, f1⟩ MSt.at_same rfl rfl
  | ite e k =>
    cases hstep with
    | ite hev =>
    rename_i i
    obtain ⟨p', z1, z2, z3, zz, ep', r1, nee, r3⟩ := im3 irv
    cases zz
    refine ifFD (show ¬ ("if" : Str) = "end" by decide +kernel) ⟨_, rfl, p, _, _, _, rfl, rfl, SqT.of ep, at0, rfl, _, rfl, ifFD (show ¬ ("if" : Str) = "take" by decide +kernel) (iteF ?_)⟩
    refine ⟨_, rfl, p, _, _, _, rfl, rfl, SqT.of ep, at0, rfl, _, rfl, ifFD (show ¬ ("if" : Str) = "take" by decide +kernel) ?_⟩
    refine ⟨_, rfl, p, _, _, _, rfl, rfl, SqT.of ep, at0, rfl, _, rfl, ifFD (show ¬ ("if" : Str) = "send" by decide +kernel) ?_⟩
    refine ⟨_, rfl, p, _, _, _, rfl, rfl, SqT.of ep, at0, rfl, _, rfl, ifFD (show ¬ ("if" : Str) = "set" by decide +kernel) ?_⟩
    refine ⟨_, rfl, p, _, _, _, rfl, rfl, SqT.of ep, at0, rfl, _, rfl, ifFD (show ¬ ("if" : Str) = "tell" by decide +kernel) ?_⟩
    refine ⟨_, rfl, p, _, _, _, rfl, rfl, SqT.of ep, at0, rfl, _, rfl, ifTD ?_⟩
    refine ⟨_, rfl, ad, dx, _, rfl, f1, n_Lone_value, _, rfl, p, _, _, _, rfl, rfl, SqT.of ep', at1, ad, dx, ka, .ref rq, .ref la, _, bx, .ref cx, .ref gx, .ref nx, _, m.kinds, (st.hand hd.name).env, e, .int i, kvs, rfl, f1, f2, nee, rd_of f8, f9, hev, fun Hw u sw iu => ?_⟩
    cases im_int iu
    refine ⟨rfl, .inr ⟨_, rfl, ?_⟩⟩
    have hL1 := hL0.same sw
    obtain ⟨t, dx, ka, ra, la, bx, cx, gx, nx, kvs, ns, ck, gk, lxs, f1, f2, f3, f4, f5, f6, f7, f8, f9, f10, f11, f12, f13, f14, f15, f16, f17, f18, f19⟩ := id hL1
    obtain ⟨lv, hlv, ilv⟩ := f6.get (lead_get hrow)
    obtain ⟨lq, lys, rfl, elq, iq⟩ := im_tup (show Im _ lv (.tup [.int (k : Nat), .int (((st.hand hd.name).line + 1 : Nat) : Int)]) from ilv)
    obtain ⟨l0, lr, rfl, il, iq⟩ := iml_cons iq
    obtain ⟨l1, lr', rfl, il', _⟩ := iml_cons iq
    cases im_int il
    cases im_int il'
    by_cases hi : i = 0
    · subst hi
      rw [show decide (V.int 0 = V.int 0) = true from decide_eq_true rfl]
      refine ⟨_, rfl, ad, _, dx, _, _, rfl, f1, cL, na_Lone_leads T, l_Lone_leads, _, rfl, ad, _, dx, _, _, rfl, f1, cL, na_Lone_at T, l_Lone_at, la, _, _, _, rfl, rfl, SqL.of f5, atI_nat hlv, _, rfl, lq, _, _, _, rfl, rfl, SqT.of elq, at1, _, rfl, ad, _, dx, _, rfl, f1, cL, na_Lone_at T, len_Lone, ?_⟩
      rw [p_Lone_at]
      refine ⟨_, rfl, ad, _, dx, _, _, rfl, upd_same, cL, na_Lone_done T, l_Lone_done, _, _, rfl, rfl, dx, _, upd_same, len_Lone, ?_⟩
      rw [p_Lone_done, upd_upd]
      exact fin _ (st.hand hd.name) st.row (w0.same sw) (BtT.of sw) hL1 (hN.same sw) dx ((st.hand hd.name).line + 1) _ (fun ka' ra' la' bx' cx' gx' nx' e => lone_inj f1 e) ⟨_, f1⟩ MSt.at_same rfl rfl
    · rw [decide_eq_false (fun z => hi (V.int.inj z))]
      refine ⟨_, rfl, ad, _, dx, _, _, rfl, f1, cL, na_Lone_leads T, l_Lone_leads, _, rfl, ad, _, dx, _, _, rfl, f1, cL, na_Lone_at T, l_Lone_at, la, _, _, _, rfl, rfl, SqL.of f5, atI_nat hlv, _, rfl, lq, _, _, _, rfl, rfl, SqT.of elq, at0, _, rfl, ad, _, dx, _, rfl, f1, cL, na_Lone_at T, len_Lone, ?_⟩
      rw [p_Lone_at]
      refine ⟨_, rfl, ad, _, dx, _, _, rfl, upd_same, cL, na_Lone_done T, l_Lone_done, _, _, rfl, rfl, dx, _, upd_same, len_Lone, ?_⟩
      rw [p_Lone_done, upd_upd]
      exact fin _ (st.hand hd.name) st.row (w0.same sw) (BtT.of sw) hL1 (hN.same sw) dx k _ (fun ka' ra' la' bx' cx' gx' nx' e => lone_inj f1 e) ⟨_, f1⟩ (by rw [MSt.at_same, if_neg hi]) rfl rfl
  | tell e =>
    cases hstep with
    | tell hev =>
    rename_i v
    obtain ⟨p', z1, z2, zz, ep', r1, nee⟩ := im2 irv
    cases zz
    refine ifFD (show ¬ ("tell" : Str) = "end" by decide +kernel) ⟨_, rfl, p, _, _, _, rfl, rfl, SqT.of ep, at0, rfl, _, rfl, ifFD (show ¬ ("tell" : Str) = "take" by decide +kernel) (iteF ?_)⟩
    refine ⟨_, rfl, p, _, _, _, rfl, rfl, SqT.of ep, at0, rfl, _, rfl, ifFD (show ¬ ("tell" : Str) = "take" by decide +kernel) ?_⟩
    refine ⟨_, rfl, p, _, _, _, rfl, rfl, SqT.of ep, at0, rfl, _, rfl, ifFD (show ¬ ("tell" : Str) = "send" by decide +kernel) ?_⟩
    refine ⟨_, rfl, p, _, _, _, rfl, rfl, SqT.of ep, at0, rfl, _, rfl, ifFD (show ¬ ("tell" : Str) = "set" by decide +kernel) ?_⟩
    refine ⟨_, rfl, p, _, _, _, rfl, rfl, SqT.of ep, at0, rfl, _, rfl, ifTD ?_⟩
    refine ⟨_, rfl, ad, _, dx, _, _, rfl, f1, cL, na_Lone_notes T, l_Lone_notes, .inl ⟨rfl, _, SqL.of f11⟩, _, rfl, ad, dx, _, rfl, f1, n_Lone_value, _, rfl, p, _, _, _, rfl, rfl, SqT.of ep', at1, ad, dx, ka, .ref rq, .ref la, _, bx, .ref cx, .ref gx, .ref nx, _, m.kinds, (st.hand hd.name).env, e, v, kvs, rfl, f1, f2, nee, rd_of f8, f9, hev, fun Hw u sw iu => ?_⟩
    have hnl : ns.length ≤ 1000 := by rw [f12.length]; exact sz.notes hd hhd
    refine ⟨nx, _, _, rfl, rfl, sw _ _ f11, lt_size (by omega), ?_⟩
    have b2 : BtT τ (TL hd.name) Hw (upd Hw nx (.lst (ns ++ [u]))) := BtT.put f10 (.inl ⟨(show 3 ≤ 5 by decide), Nat.le_refl _, rfl⟩)
    have w2 := w0.same sw
    have tk := b2.tk w2
    have ne : ∀ {z : Addr} {i : Nat}, τ z = some (i, hd.name) → i ≠ 5 → z ≠ nx := fun h1 h2 e => by
      rw [e, f10] at h1
      injection h1 with h1
      injection h1 with h1 _
      exact h2 h1.symm
    obtain ⟨_, dx9, ka9, ra9, la9, bx9, cx9, gx9, nx9, kvs9, ns9, ck9, gk9, lxs9, _, _, f39, _, _, _⟩ := hL0.same sw
    have hL1 : LoneAt K (upd Hw nx (.lst (ns ++ [u]))) τ ln m m.chans hd ad ⟨(st.hand hd.name).line, (st.hand hd.name).env, (st.hand hd.name).notes ++ [v], (st.hand hd.name).done⟩ :=
      ⟨t, dx, ka, .ref rq, la, bx, cx, gx, nx, kvs, ns ++ [u], ck, gk, lxs, (upd_ne (ne t (by decide))).trans (sw _ _ f1), (f2.mono (Tk.of sw)).mono tk, (f3.mono (Tk.of sw)).mono tk, f4, (upd_ne (ne f4 (by decide))).trans (sw _ _ f5), (f6.mono (Tk.of sw)).mono tk, f7, (upd_ne (ne f7 (by decide))).trans (sw _ _ f8), (f9.mono (Tk.of sw)).mono tk,
        f10, upd_same, ((f12.mono (Tk.of sw)).append (ImL.one iu)).mono tk, f13, (upd_ne (ne f13 (by decide))).trans (sw _ _ f14), f15, (upd_ne (ne f15 (by decide))).trans (sw _ _ f16), f17, f18, f19⟩
    have hN1 : LinesAt (upd Hw nx (.lst (ns ++ [u]))) τ ln m st.row := (hN.same sw).keep (T := fun t => t = (5, hd.name)) (BtT.put f10 rfl) tk (fun c z => by injection z with z _; omega)
    obtain ⟨t, dx, ka, ra, la, bx, cx, gx, nx, kvs, ns, ck, gk, lxs, f1, f2, f3, f4, f5, f6, f7, f8, f9, f10, f11, f12, f13, f14, f15, f16, f17, f18, f19⟩ := id hL1
    obtain ⟨lv, hlv, ilv⟩ := f6.get (lead_get hrow)
    obtain ⟨lq, lys, rfl, elq, iq⟩ := im_tup (show Im _ lv (.tup [.int (((st.hand hd.name).line + 1 : Nat) : Int)]) from ilv)
    obtain ⟨l0, lr, rfl, il, _⟩ := iml_cons iq
    cases im_int il
    refine ⟨_, rfl, ad, _, dx, _, _, rfl, f1, cL, na_Lone_leads T, l_Lone_leads, _, rfl, ad, _, dx, _, _, rfl, f1, cL, na_Lone_at T, l_Lone_at, la, _, _, _, rfl, rfl, SqL.of f5, atI_nat hlv, _, rfl, lq, _, _, _, rfl, rfl, SqT.of elq, at0, _, rfl, ad, _, dx, _, rfl, f1, cL, na_Lone_at T, len_Lone, ?_⟩
    rw [p_Lone_at]
    refine ⟨_, rfl, ad, _, dx, _, _, rfl, upd_same, cL, na_Lone_done T, l_Lone_done, _, _, rfl, rfl, dx, _, upd_same, len_Lone, ?_⟩
    rw [p_Lone_done, upd_upd]
    exact fin _ ⟨(st.hand hd.name).line, (st.hand hd.name).env, (st.hand hd.name).notes ++ [v], (st.hand hd.name).done⟩ st.row (w2.put ntL) ((BtT.of sw).trans b2) hL1 hN1 dx ((st.hand hd.name).line + 1) _ (fun ka' ra' la' bx' cx' gx' nx' e => lone_inj f1 e) ⟨_, f1⟩ MSt.at_same rfl rfl
  | set x e =>
    cases hstep with
    | set hev =>
    rename_i v
    obtain ⟨p', z1, z2, z3, zz, ep', r1, r2, nee⟩ := im3 irv
    cases zz
    cases im_str r2
    refine ifFD (show ¬ ("set" : Str) = "end" by decide +kernel) ⟨_, rfl, p, _, _, _, rfl, rfl, SqT.of ep, at0, rfl, _, rfl, ifFD (show ¬ ("set" : Str) = "take" by decide +kernel) (iteF ?_)⟩
    refine ⟨_, rfl, p, _, _, _, rfl, rfl, SqT.of ep, at0, rfl, _, rfl, ifFD (show ¬ ("set" : Str) = "take" by decide +kernel) ?_⟩
    refine ⟨_, rfl, p, _, _, _, rfl, rfl, SqT.of ep, at0, rfl, _, rfl, ifFD (show ¬ ("set" : Str) = "send" by decide +kernel) ?_⟩
    refine ⟨_, rfl, p, _, _, _, rfl, rfl, SqT.of ep, at0, rfl, _, rfl, ifTD ?_⟩
    refine ⟨_, rfl, ad, dx, _, rfl, f1, n_Lone_value, _, rfl, p, _, _, _, rfl, rfl, SqT.of ep', at2, ad, dx, ka, .ref rq, .ref la, _, bx, .ref cx, .ref gx, .ref nx, _, m.kinds, (st.hand hd.name).env, e, v, kvs, rfl, f1, f2, nee, rd_of f8, f9, hev, fun Hw u sw iu => ?_⟩
    have hkl : kvs.length ≤ 1000 := by rw [f9.length]; exact hel
    refine ⟨_, rfl, ad, _, dx, _, _, rfl, (sw _ _ f1), cL, na_Lone_held T, l_Lone_held, _, rfl, p, _, _, _, rfl, rfl, SqT.of (sw _ _ ep'), at1, bx, _, rfl, DPut.k (k := Sum.inr x) (sw _ _ f8) (lt_size (by omega)), ?_⟩
    have b2 : BtT τ (TL hd.name) Hw (upd Hw bx (.dK (putK kvs (Sum.inr x) u))) := BtT.put f7 (.inl ⟨(show 3 ≤ 4 by decide), (show 4 ≤ 5 by decide), rfl⟩)
    have w2 := w0.same sw
    have tk := b2.tk w2
    have ne : ∀ {z : Addr} {i : Nat}, τ z = some (i, hd.name) → i ≠ 4 → z ≠ bx := fun h1 h2 e => by
      rw [e, f7] at h1
      injection h1 with h1
      injection h1 with h1 _
      exact h2 h1.symm
    have hL1 : LoneAt K (upd Hw bx (.dK (putK kvs (Sum.inr x) u))) τ ln m m.chans hd ad ⟨(st.hand hd.name).line, putE (st.hand hd.name).env x v, (st.hand hd.name).notes, (st.hand hd.name).done⟩ :=
      ⟨t, dx, ka, .ref rq, la, bx, cx, gx, nx, _, ns, ck, gk, lxs, (upd_ne (ne t (by decide))).trans (sw _ _ f1), (f2.mono (Tk.of sw)).mono tk, (f3.mono (Tk.of sw)).mono tk, f4, (upd_ne (ne f4 (by decide))).trans (sw _ _ f5), (f6.mono (Tk.of sw)).mono tk, f7, upd_same, ((f9.mono (Tk.of sw)).put iu).mono tk,
        f10, (upd_ne (ne f10 (by decide))).trans (sw _ _ f11), (f12.mono (Tk.of sw)).mono tk, f13, (upd_ne (ne f13 (by decide))).trans (sw _ _ f14), f15, (upd_ne (ne f15 (by decide))).trans (sw _ _ f16), f17, f18, f19⟩
    have hN1 : LinesAt (upd Hw bx (.dK (putK kvs (Sum.inr x) u))) τ ln m st.row := (hN.same sw).keep (T := fun t => t = (4, hd.name)) (BtT.put f7 rfl) tk (fun c z => by injection z with z _; omega)
    obtain ⟨t, dx, ka, ra, la, bx, cx, gx, nx, kvs, ns, ck, gk, lxs, f1, f2, f3, f4, f5, f6, f7, f8, f9, f10, f11, f12, f13, f14, f15, f16, f17, f18, f19⟩ := id hL1
    obtain ⟨lv, hlv, ilv⟩ := f6.get (lead_get hrow)
    obtain ⟨lq, lys, rfl, elq, iq⟩ := im_tup (show Im _ lv (.tup [.int (((st.hand hd.name).line + 1 : Nat) : Int)]) from ilv)
    obtain ⟨l0, lr, rfl, il, _⟩ := iml_cons iq
    cases im_int il
    refine ⟨_, rfl, ad, _, dx, _, _, rfl, f1, cL, na_Lone_leads T, l_Lone_leads, _, rfl, ad, _, dx, _, _, rfl, f1, cL, na_Lone_at T, l_Lone_at, la, _, _, _, rfl, rfl, SqL.of f5, atI_nat hlv, _, rfl, lq, _, _, _, rfl, rfl, SqT.of elq, at0, _, rfl, ad, _, dx, _, rfl, f1, cL, na_Lone_at T, len_Lone, ?_⟩
    rw [p_Lone_at]
    refine ⟨_, rfl, ad, _, dx, _, _, rfl, upd_same, cL, na_Lone_done T, l_Lone_done, _, _, rfl, rfl, dx, _, upd_same, len_Lone, ?_⟩
    rw [p_Lone_done, upd_upd]
    exact fin _ ⟨(st.hand hd.name).line, putE (st.hand hd.name).env x v, (st.hand hd.name).notes, (st.hand hd.name).done⟩ st.row (w2.put ntK) ((BtT.of sw).trans b2) hL1 hN1 dx ((st.hand hd.name).line + 1) _ (fun ka' ra' la' bx' cx' gx' nx' e => lone_inj f1 e) ⟨_, f1⟩ MSt.at_same rfl rfl
  | send c e =>
    obtain ⟨ch, hch, rfl, hsrc, _⟩ := rok
    cases hstep with
    | send hev =>
    rename_i v
    obtain ⟨p', z1, z2, z3, zz, ep', r1, r2, nee⟩ := im3 irv
    cases zz
    cases im_str r2
    refine ifFD (show ¬ ("send" : Str) = "end" by decide +kernel) ⟨_, rfl, p, _, _, _, rfl, rfl, SqT.of ep, at0, rfl, _, rfl, ifFD (show ¬ ("send" : Str) = "take" by decide +kernel) (iteF ?_)⟩
    refine ⟨_, rfl, p, _, _, _, rfl, rfl, SqT.of ep, at0, rfl, _, rfl, ifFD (show ¬ ("send" : Str) = "take" by decide +kernel) ?_⟩
    refine ⟨_, rfl, p, _, _, _, rfl, rfl, SqT.of ep, at0, rfl, _, rfl, ifTD ?_⟩
    obtain ⟨v1, xs, v2, v3⟩ := hN ch hch
    have hgv := f19 ch hch hsrc
    have hxl : xs.length ≤ 1000 := by rw [v3.length]; exact sz.row ch hch
    refine ⟨_, rfl, ad, _, dx, _, _, rfl, f1, cL, na_Lone_gone T, l_Lone_gone, _, rfl, p, _, _, _, rfl, rfl, SqT.of ep', at1, gx, .ref (ln ch.name), rfl, hgv ▸ dget_s (rd_of f16), .inl ⟨rfl, _, SqL.of v2⟩, _, rfl, ad, dx, _, rfl, f1, n_Lone_value, _, rfl, p, _, _, _, rfl, rfl, SqT.of ep', at2, ad, dx, ka, .ref rq, .ref la, _, bx, .ref cx, .ref gx, .ref nx, _, m.kinds, (st.hand hd.name).env, e, v, kvs, rfl, f1, f2, nee, rd_of f8, f9, hev, fun Hw u sw iu => ?_⟩
    refine ⟨ln ch.name, _, _, rfl, rfl, sw _ _ v2, lt_size (by omega), ?_⟩
    have b2 : BtT τ (fun t => t = (6, ch.name)) Hw (upd Hw (ln ch.name) (.lst (xs ++ [u]))) := BtT.put v1 rfl
    have w2 := w0.same sw
    have tk := b2.tk w2
    have hL1 : LoneAt K (upd Hw (ln ch.name) (.lst (xs ++ [u]))) τ ln m m.chans hd ad (st.hand hd.name) := (hL0.same sw).keep b2 tk (fun i _ h z => by injection z with z _; exact h z)
    have hN1 : LinesAt (upd Hw (ln ch.name) (.lst (xs ++ [u]))) τ ln m (st.rowAt ch.name (st.row ch.name ++ [v])).row := (hN.same sw).upd b2 tk (fun c hc z => by injection z with _ z; exact hc z) upd_same (((v3.mono (Tk.of sw)).append (ImL.one iu)).mono tk)
    obtain ⟨t, dx, ka, ra, la, bx, cx, gx, nx, kvs, ns, ck, gk, lxs, f1, f2, f3, f4, f5, f6, f7, f8, f9, f10, f11, f12, f13, f14, f15, f16, f17, f18, f19⟩ := id hL1
    obtain ⟨lv, hlv, ilv⟩ := f6.get (lead_get hrow)
    obtain ⟨lq, lys, rfl, elq, iq⟩ := im_tup (show Im _ lv (.tup [.int (((st.hand hd.name).line + 1 : Nat) : Int)]) from ilv)
    obtain ⟨l0, lr, rfl, il, _⟩ := iml_cons iq
    cases im_int il
    refine ⟨_, rfl, ad, _, dx, _, _, rfl, f1, cL, na_Lone_leads T, l_Lone_leads, _, rfl, ad, _, dx, _, _, rfl, f1, cL, na_Lone_at T, l_Lone_at, la, _, _, _, rfl, rfl, SqL.of f5, atI_nat hlv, _, rfl, lq, _, _, _, rfl, rfl, SqT.of elq, at0, _, rfl, ad, _, dx, _, rfl, f1, cL, na_Lone_at T, len_Lone, ?_⟩
    rw [p_Lone_at]
    refine ⟨_, rfl, ad, _, dx, _, _, rfl, upd_same, cL, na_Lone_done T, l_Lone_done, _, _, rfl, rfl, dx, _, upd_same, len_Lone, ?_⟩
    rw [p_Lone_done, upd_upd]
    exact fin _ (st.hand hd.name) _ (w2.put ntL) ((BtT.of sw).trans (b2.mono fun t e => .inr (by rw [e]))) hL1 hN1 dx ((st.hand hd.name).line + 1) _ (fun ka' ra' la' bx' cx' gx' nx' e => lone_inj f1 e) ⟨_, f1⟩ MSt.at_same rfl rfl
  | take l c x =>
    obtain ⟨ch, hch, rfl, hdst, _⟩ := rok
    obtain ⟨p', z1, z2, z3, z4, zz, ep', r1, r2, r3, r4⟩ := im4 irv
    cases zz
    cases im_str r3
    cases im_str r4
    obtain ⟨v1, xs, v2, v3⟩ := hN ch hch
    have hcv := f18 ch hch hdst
    refine ifFD (show ¬ ("take" : Str) = "end" by decide +kernel) ⟨_, rfl, p, _, _, _, rfl, rfl, SqT.of ep, at0, rfl, _, rfl, ifTD ?_⟩
    refine ⟨_, rfl, ad, _, dx, _, _, rfl, f1, cL, na_Lone_coming T, l_Lone_coming, _, rfl, p, _, _, _, rfl, rfl, SqT.of ep', at2, cx, .ref (ln ch.name), rfl, hcv ▸ dget_s (rd_of f14), le_size (by show 0 ≤ 100000; decide), fun lq hlq => ?_⟩
    have s1 : Same H (upd H lq (.lst [])) := same_new hlq
    refine ⟨ln ch.name, lq, xs, rfl, rfl, SqL.of (s1 _ _ v2), SqL.of upd_same, _, rfl, ?_⟩
    generalize upd H lq (.lst []) = Hw at s1 ⊢
    cases hr : st.row ch.name with
    | nil =>
      rw [hr] at v3
      cases iml_nil v3
      cases hstep with
      | wait _ => exact iteT (k1 _ (w0.same s1) (BtT.of s1) (hL0.same s1) (hN.same s1))
      | take q => rw [hr] at q; cases q
    | cons d r =>
      rw [hr] at v3
      obtain ⟨x0, xr, rfl, i0, ixr⟩ := iml_cons v3
      cases hstep with
      | wait q => rw [hr] at q; cases q
      | take q =>
      rename_i d' r'
      rw [hr] at q
      cases q
      refine iteF ?_
      refine ⟨_, rfl, p, _, _, _, rfl, rfl, SqT.of (s1 _ _ ep), at0, rfl, _, rfl, ifTD ?_⟩
      refine ⟨_, rfl, ad, _, dx, _, _, rfl, (s1 _ _ f1), cL, na_Lone_coming T, l_Lone_coming, _, rfl, p, _, _, _, rfl, rfl, SqT.of (s1 _ _ ep'), at2, cx, .ref (ln ch.name), rfl, hcv ▸ dget_s (rd_of (s1 _ _ f14)), .inl ⟨rfl, _, SqL.of (s1 _ _ v2)⟩, ln ch.name, _, 0, 0, x0, rfl, rfl, s1 _ _ v2, by decide, by decide, seq0, rfl, ?_⟩
      have b1 : BtT τ (fun t => t = (6, ch.name)) Hw (upd Hw (ln ch.name) (.lst xr)) := BtT.put v1 rfl
      have w1 := w0.same s1
      have tk1 := b1.tk w1
      have hL1 : LoneAt K (upd Hw (ln ch.name) (.lst xr)) τ ln m m.chans hd ad (st.hand hd.name) := (hL0.same s1).keep b1 tk1 (fun i _ h z => by injection z with z _; exact h z)
      have hN1 : LinesAt (upd Hw (ln ch.name) (.lst xr)) τ ln m (st.rowAt ch.name r).row := (hN.same s1).upd b1 tk1 (fun c hc z => by injection z with _ z; exact hc z) upd_same ((ixr.mono (Tk.of s1)).mono tk1)
      have ep2 := tk1 _ _ (s1 _ _ ep') trivial
      have iu := (i0.mono (Tk.of s1)).mono tk1
      have w2 := w1.put (b := ln ch.name) (o := .lst xr) ntL
      rw [show (x0 :: xr).eraseIdx 0 = xr from rfl]
      generalize upd Hw (ln ch.name) (.lst xr) = Hv at b1 tk1 hL1 hN1 ep2 iu w2 ⊢
      obtain ⟨t, dx, ka, ra, la, bx, cx, gx, nx, kvs, ns, ck, gk, lxs, f1, f2, f3, f4, f5, f6, f7, f8, f9, f10, f11, f12, f13, f14, f15, f16, f17, f18, f19⟩ := id hL1
      have hkl : kvs.length ≤ 1000 := by rw [f9.length]; exact hel
      refine ⟨_, rfl, ad, _, dx, _, _, rfl, f1, cL, na_Lone_held T, l_Lone_held, _, rfl, p, _, _, _, rfl, rfl, SqT.of ep2, at3, bx, _, rfl, DPut.k (k := Sum.inr x) f8 (lt_size (by omega)), ?_⟩
      have b2 : BtT τ (TL hd.name) Hv (upd Hv bx (.dK (putK kvs (Sum.inr x) x0))) := BtT.put f7 (.inl ⟨(show 3 ≤ 4 by decide), (show 4 ≤ 5 by decide), rfl⟩)
      have tk := b2.tk w2
      have ne : ∀ {z : Addr} {i : Nat}, τ z = some (i, hd.name) → i ≠ 4 → z ≠ bx := fun h1 h2 e => by
        rw [e, f7] at h1
        injection h1 with h1
        injection h1 with h1 _
        exact h2 h1.symm
      have hL2 : LoneAt K (upd Hv bx (.dK (putK kvs (Sum.inr x) x0))) τ ln m m.chans hd ad ⟨(st.hand hd.name).line, putE (st.hand hd.name).env x d, (st.hand hd.name).notes, (st.hand hd.name).done⟩ :=
        ⟨t, dx, ka, ra, la, bx, cx, gx, nx, _, ns, ck, gk, lxs, (upd_ne (ne t (by decide))).trans f1, f2.mono tk, f3.mono tk, f4, (upd_ne (ne f4 (by decide))).trans f5, f6.mono tk, f7, upd_same, (f9.put iu).mono tk,
          f10, (upd_ne (ne f10 (by decide))).trans f11, f12.mono tk, f13, (upd_ne (ne f13 (by decide))).trans f14, f15, (upd_ne (ne f15 (by decide))).trans f16, f17, f18, f19⟩
      have hN2 : LinesAt (upd Hv bx (.dK (putK kvs (Sum.inr x) x0))) τ ln m (st.rowAt ch.name r).row := hN1.keep (T := fun t => t = (4, hd.name)) (BtT.put f7 rfl) tk (fun c z => by injection z with z _; omega)
      obtain ⟨t, dx, ka, ra, la, bx, cx, gx, nx, kvs, ns, ck, gk, lxs, f1, f2, f3, f4, f5, f6, f7, f8, f9, f10, f11, f12, f13, f14, f15, f16, f17, f18, f19⟩ := id hL2
      obtain ⟨lv, hlv, ilv⟩ := f6.get (lead_get hrow)
      obtain ⟨lq, lys, rfl, elq, iq⟩ := im_tup (show Im _ lv (.tup [.int (((st.hand hd.name).line + 1 : Nat) : Int)]) from ilv)
      obtain ⟨l0, lr, rfl, il, _⟩ := iml_cons iq
      cases im_int il
      refine ⟨_, rfl, ad, _, dx, _, _, rfl, f1, cL, na_Lone_leads T, l_Lone_leads, _, rfl, ad, _, dx, _, _, rfl, f1, cL, na_Lone_at T, l_Lone_at, la, _, _, _, rfl, rfl, SqL.of f5, atI_nat hlv, _, rfl, lq, _, _, _, rfl, rfl, SqT.of elq, at0, _, rfl, ad, _, dx, _, rfl, f1, cL, na_Lone_at T, len_Lone, ?_⟩
      rw [p_Lone_at]
      refine ⟨_, rfl, ad, _, dx, _, _, rfl, upd_same, cL, na_Lone_done T, l_Lone_done, _, _, rfl, rfl, dx, _, upd_same, len_Lone, ?_⟩
      rw [p_Lone_done, upd_upd]
      exact fin _ ⟨(st.hand hd.name).line, putE (st.hand hd.name).env x d, (st.hand hd.name).notes, (st.hand hd.name).done⟩ _ (w2.put ntK) (((BtT.of s1).trans (b1.mono fun t e => .inr (by rw [e]))).trans b2) hL2 hN2 dx ((st.hand hd.name).line + 1) _ (fun ka' ra' la' bx' cx' gx' nx' e => lone_inj f1 e) ⟨_, f1⟩ MSt.at_same rfl rfl
end
end SwK
set_option maxHeartbeats 8000000
/-! the plain house: a hand made -/
namespace SwK
open PySem PySem.Spec PyProof.Rows L2
def spWaysOf : Sp := sp1 fun a H Q => ∃ rs : List Rw, Im H a (.tup (rs.map Rw.d)) ∧ rs.length ≤ 1000 ∧ ∀ H' q xs, Same H H' → H q = none → H' q = some (.lst xs) → ImL H' xs (leadsD rs) → Q (.ref q) H'
def spFirstS : Sp := sp2 fun a b H Q => ∃ m hd, MkOk m ∧ hd ∈ m.hands ∧ Im H a (Mk0.d m) ∧ b = .str hd.name ∧
  ∀ H' r q kvs, Same H H' → H' r = some (.tup [.int 0, .ref q]) → H' q = some (.dK kvs) → KvI H' kvs (noughtE m hd) → Q (.ref r) H'
def spLone (K : PySem.W.Frag) : Sp := sp5 fun a b c d e H Q => ∃ τ0 m hd x dx lt, MkOk m ∧ hd ∈ m.hands ∧ OwnAt H τ0 ∧ τ0 x = none ∧ a = .ref x ∧ H x = some (.ins (C_Lone K) dx []) ∧ Im H b (Mk0.d m) ∧ c = .str hd.name ∧ d = .ref lt ∧ H lt = some (.dK []) ∧ e = .non ∧
  ∀ H' τ lf, (∀ a t, τ0 a = some t → τ a = some t) → (∀ a t, τ a = some t → τ0 a = some t ∨ a = x ∨ H a = none) → OwnAt H' τ → Bt (fun a => a = x) H H' → LoneAt K H' τ lf m [] hd x ⟨0, noughtE m hd, [], 0⟩ →
    (∀ ch ∈ m.chans, ch.dst = hd.name → τ (lf ch.name) = some (6, ch.name) ∧ H' (lf ch.name) = some (.lst [])) → Q .non H'
theorem leads_snoc {rs : List Rw} {i : Nat} {r : Rw} (h : rs[i]? = some r) : leadsD (rs.take (i + 1)) = leadsD (rs.take i) ++ [leadD i r] := by
  unfold leadsD
  rw [take_snoc h, List.mapIdx_concat, List.length_take]
  have := (List.getElem?_eq_some_iff.mp h).1
  rw [Nat.min_eq_left (by omega)]
section
variable {P : Program} {w : World} {K : PySem.W.Frag} {mg : Str → Option Value} {base : Heap}
/- ways_of: slots 0 rows 1 found 2 k 3 row -/
theorem sc_ways_of : FnScope ["rows", "found", "k", "row"] ["rows"] (defScope s_ways_of) := ⟨rfl, rfl, rfl, by decide +kernel, rfl, by decide +kernel, by decide +kernel⟩
theorem ok_ways_of (T : Txt K mg) : C8.Cal P w K mg base 1 "ways_of" spWaysOf [] := by
  refine mkCal (f_ways_of T) (g_ways_of T) sc_ways_of (fun _ _ _ _ _ _ us hl => match us, hl with | [_], _ => rfl) (fun vs H Q E h => ?_) (fun vs H Q E h => ?_)
  · obtain ⟨a, rfl, _⟩ := sp1_len h
    rfl
  obtain ⟨a, rfl, h⟩ := sp1_len h
  intro cdv A outer s E hr
  have hu := hu_of hr
  obtain ⟨rs, h1, hl, k1⟩ := h
  obtain ⟨ra, rxs, rfl, er, ir⟩ := im_tup h1
  have l1 : rxs.length = rs.length := by rw [ir.length, List.length_map]
  refine ⟨_, (pss_cons (ps_set (i := 1) sc_ways_of.nd rfl (by first | exact .inl rfl | exact .inr rfl) (pe_lst pa_nil))
        (pss_cons (ps_for PassesOwn.never rfl (pi_enumT rfl (z_enumerate T) (pa_cons (pv 0) pa_nil)) (pg_tup rfl (pgs_cons (pg_name (i := 2) sc_ways_of.nd rfl (by first | exact .inl rfl | exact .inr rfl)) (pgs_cons (pg_name (i := 3) sc_ways_of.nd rfl (by first | exact .inl rfl | exact .inr rfl)) pgs_nil))) (pss_one (ps_if (pt_cmpR op_eq (pe_ix ix_tup (pv 3) pe_int (fun _ _ => rfl)) pe_str (nomark _)) (pss_one (ps_expr (pe_bm PySem.F.plainAttrs_list PySem.F.slot_list_append PySem.F.type_list_append mt_append (pv 1) (pa_cons (pe_tup (pa_cons (pe_ix ix_tup (pv 3) pe_int (fun _ _ => rfl)) pa_nil)) pa_nil)))) (pss_one (ps_if (pt_cmpR op_eq (pe_ix ix_tup (pv 3) pe_int (fun _ _ => rfl)) pe_str (nomark _)) (pss_one (ps_expr (pe_bm PySem.F.plainAttrs_list PySem.F.slot_list_append PySem.F.type_list_append mt_append (pv 1) (pa_cons (pe_tup (pa_cons (pe_ix ix_tup (pv 3) pe_int (fun _ _ => rfl)) (pa_cons (pe_op op_add (pv 2) pe_int) pa_nil))) pa_nil)))) (pss_one (ps_if (pt_cmpR op_eq (pe_ix ix_tup (pv 3) pe_int (fun _ _ => rfl)) pe_str (nomark _)) (pss_one (ps_expr (pe_bm PySem.F.plainAttrs_list PySem.F.slot_list_append PySem.F.type_list_append mt_append (pv 1) (pa_cons (pe_tup pa_nil) pa_nil)))) (pss_one (ps_expr (pe_bm PySem.F.plainAttrs_list PySem.F.slot_list_append PySem.F.type_list_append mt_append (pv 1) (pa_cons (pe_tup (pa_cons (pe_op op_add (pv 2) pe_int) pa_nil)) pa_nil)))))))))))
        (pss_one (ps_ret (pv 1))))), ?_⟩
  refine ⟨le_size (by show 0 ≤ 100000; decide), fun q hq => ?_⟩
  have sq : Same H (upd H q (.lst [])) := same_new hq
  refine ⟨_, rfl, ra, rxs, rfl, SqT.of (sq _ _ er), L2.for_it walk_enumT (fun i σ H' => Filled H q (leadsD (rs.take i)) H' ∧ ∃ o2 o3, σ = [some (.ref ra), some (.ref q), o2, o3]) ⟨⟨sq, [], upd_same, .nil⟩, _, _, rfl⟩ (fun i σ H' _ z => SqT.of (z.1.1 _ _ er)) ?_ ?_⟩
  · rintro i x σ H1 H' hi ⟨⟨s1, acc, hacc, iacc⟩, o2, o3, rfl⟩ ⟨tq, y1, y2, rfl, htq, rfl, e1, e2⟩
    cases e1
    have s2 : Same H1 (upd H1 tq (.tup [.int (i : Nat), y2])) := same_new htq
    obtain ⟨r, hr1, ix⟩ := iml_map ir e2
    have ix := ix.mono (Tk.of (s1.trans s2))
    obtain ⟨p, xs, rfl, ep⟩ := rw_head ix
    have hlen : acc.length ≤ 1000 := by
      rw [iacc.length]
      unfold leadsD
      rw [List.length_mapIdx, List.length_take]
      omega
    generalize hH2 : upd H1 tq (.tup [.int (i : Nat), .ref p]) = H2 at s2 ix ep ⊢
    have etq : H2 tq = some (.tup [.int (i : Nat), .ref p]) := by rw [← hH2, upd_same]
    have end' : ∀ (H3 : Hp) (u : V), Same H2 H3 → Im H3 u (leadD i r) → Filled H q (leadsD (rs.take (i + 1))) (upd H3 q (.lst (acc ++ [u]))) := fun H3 u s3 iu => by
      rw [leads_snoc hr1]
      exact Filled.app hq ((s1.trans s2).trans s3) (s3 _ _ (s2 _ _ hacc)) (iacc.mono (Tk.of (s2.trans s3))) iu
    have hq2 : H2 q = some (.lst acc) := s2 _ _ hacc
    refine ⟨tq, _, rfl, SqT.of etq, rfl, _, _, rfl, _, _, rfl, rfl, ?_⟩
    refine ⟨_, rfl, p, _, _, _, rfl, rfl, SqT.of ep, at0, rfl, _, rfl, ?_⟩
    have other : (hne1 : ¬ r.word = "go") → (hne2 : ¬ r.word = "if") → (hne3 : ¬ r.word = "end") → leadD i r = .tup [.int ((i + 1 : Nat) : Int)] := fun a b c => by
      cases r with
      | go k => exact absurd rfl a
      | ite e k => exact absurd rfl b
      | fin => exact absurd rfl c
      | _ => rfl
    by_cases w1 : r.word = "go"
    · rw [w1, strT]
      cases r with
      | go k =>
        obtain ⟨p', x1, x2, z, ep', i1, i2⟩ := im2 ix
        cases z
        cases im_int i2
        refine iteT ⟨_, rfl, .inl ⟨rfl, _, SqL.of hq2⟩, _, rfl, p, _, _, _, rfl, rfl, SqT.of ep', at1, le_size (by show 1 ≤ 100000; decide), fun aq haq => ?_⟩
        exact ⟨q, _, _, rfl, rfl, same_new haq _ _ hq2, lt_size (by omega), end' _ _ (same_new haq) (im_new haq (.cons (.int _) .nil)), _, _, rfl⟩
      | set x e => exact absurd (show ("set" : Str) = "go" from w1) (by decide +kernel)
      | send x e => exact absurd (show ("send" : Str) = "go" from w1) (by decide +kernel)
      | take l c x => exact absurd (show ("take" : Str) = "go" from w1) (by decide +kernel)
      | tell e => exact absurd (show ("tell" : Str) = "go" from w1) (by decide +kernel)
      | ite e k => exact absurd (show ("if" : Str) = "go" from w1) (by decide +kernel)
      | fin => exact absurd (show ("end" : Str) = "go" from w1) (by decide +kernel)
    refine ifFD w1 ?_
    refine ⟨_, rfl, p, _, _, _, rfl, rfl, SqT.of ep, at0, rfl, _, rfl, ?_⟩
    by_cases w2 : r.word = "if"
    · rw [w2, strT]
      cases r with
      | ite e k =>
        obtain ⟨p', x1, x2, x3, z, ep', i1, i2, i3⟩ := im3 ix
        cases z
        cases im_int i3
        refine iteT ⟨_, rfl, .inl ⟨rfl, _, SqL.of hq2⟩, _, rfl, p, _, _, _, rfl, rfl, SqT.of ep', at2, _, rfl, _, _, rfl, rfl, le_size (by show 2 ≤ 100000; decide), fun aq haq => ?_⟩
        exact ⟨q, _, _, rfl, rfl, same_new haq _ _ hq2, lt_size (by omega), end' _ _ (same_new haq) (im_new haq (.cons (.int _) (.cons (.int _) .nil))), _, _, rfl⟩
      | set x e => exact absurd (show ("set" : Str) = "if" from w2) (by decide +kernel)
      | send x e => exact absurd (show ("send" : Str) = "if" from w2) (by decide +kernel)
      | take l c x => exact absurd (show ("take" : Str) = "if" from w2) (by decide +kernel)
      | tell e => exact absurd (show ("tell" : Str) = "if" from w2) (by decide +kernel)
      | go k => exact absurd rfl w1
      | fin => exact absurd (show ("end" : Str) = "if" from w2) (by decide +kernel)
    refine ifFD w2 ?_
    refine ⟨_, rfl, p, _, _, _, rfl, rfl, SqT.of ep, at0, rfl, _, rfl, ?_⟩
    by_cases w3 : r.word = "end"
    · rw [w3, strT]
      have el : leadD i r = .tup [] := by
        cases r with
        | fin => rfl
        | set x e => exact absurd (show ("set" : Str) = "end" from w3) (by decide +kernel)
        | send x e => exact absurd (show ("send" : Str) = "end" from w3) (by decide +kernel)
        | take l c x => exact absurd (show ("take" : Str) = "end" from w3) (by decide +kernel)
        | tell e => exact absurd (show ("tell" : Str) = "end" from w3) (by decide +kernel)
        | go k => exact absurd rfl w1
        | ite e k => exact absurd rfl w2
      refine iteT ⟨_, rfl, .inl ⟨rfl, _, SqL.of hq2⟩, le_size (by show 0 ≤ 100000; decide), fun aq haq => ?_⟩
      exact ⟨q, _, _, rfl, rfl, same_new haq _ _ hq2, lt_size (by omega), end' _ _ (same_new haq) (by rw [el]; exact im_new haq .nil), _, _, rfl⟩
    refine ifFD w3 ?_
    refine ⟨_, rfl, .inl ⟨rfl, _, SqL.of hq2⟩, _, rfl, _, _, rfl, rfl, le_size (by show 1 ≤ 100000; decide), fun aq haq => ?_⟩
    exact ⟨q, _, _, rfl, rfl, same_new haq _ _ hq2, lt_size (by omega), end' _ _ (same_new haq) (by rw [other w1 w2 w3]; exact im_new haq (.cons (.int _) .nil)), _, _, rfl⟩
  · rintro σ H' ⟨⟨s1, acc, hacc, iacc⟩, o2, o3, rfl⟩
    rw [l1, List.take_length] at iacc
    exact ⟨_, rfl, k1 _ q acc s1 hq hacc iacc⟩
/- first_stand: slots 0 make 1 h 2 boxes 3 x 4 kind -/
theorem sc_first_stand : FnScope ["make", "h", "boxes", "x", "kind"] ["make", "h"] (defScope s_first_stand) := ⟨rfl, rfl, rfl, by decide +kernel, rfl, by decide +kernel, by decide +kernel⟩
theorem ok_first_stand (T : Txt K mg) (c_hand_of : C8.Cal P w K mg base 2 "hand_of" spHandOf []) (c_nought : C8.Cal P w K mg base 7 "nought" (spNought 4) []) : C8.Cal P w K mg base 8 "first_stand" spFirstS [] := by
  refine mkCal (f_first_stand T) (g_first_stand T) sc_first_stand (fun _ _ _ _ _ _ us hl => match us, hl with | [_, _], _ => rfl) (fun vs H Q E h => ?_) (fun vs H Q E h => ?_)
  · obtain ⟨a, b, rfl, _⟩ := sp2_len h
    rfl
  obtain ⟨a, b, rfl, h⟩ := sp2_len h
  intro cdv A outer s E hr
  have hu := hu_of hr
  obtain ⟨m, hd, ok, hhd, h1, rfl, k1⟩ := h
  have hk := ok.hands hd hhd
  refine ⟨_, (pss_cons (ps_set (i := 2) sc_first_stand.nd rfl (by first | exact .inl rfl | exact .inr rfl) pe_dnewK)
        (pss_cons (ps_for PassesOwn.never rfl (pi_tup (pe_ix ix_tup (C8.pe_c c_hand_of hr (by omega) rfl (pa_cons (pv 0) (pa_cons (pv 1) pa_nil))) pe_int (fun _ _ => rfl))) (pg_tup rfl (pgs_cons (pg_name (i := 3) sc_first_stand.nd rfl (by first | exact .inl rfl | exact .inr rfl)) (pgs_cons (pg_name (i := 4) sc_first_stand.nd rfl (by first | exact .inl rfl | exact .inr rfl)) pgs_nil))) (pss_one (ps_dput hu (pv 2) (pv 3) (C8.pe_c c_nought hr (by omega) rfl (pa_cons (pe_ix ix_tup (pv 0) pe_int (fun _ _ => rfl)) (pa_cons (pv 4) pa_nil))) rfl)))
        (pss_one (ps_ret (pe_tup (pa_cons pe_int (pa_cons (pv 2) pa_nil))))))), ?_⟩
  intro q hq
  have sq : Same H (upd H q (.dK [])) := same_new hq
  obtain ⟨fa, f1, f2, f3, rfl, ef, j1, j2, j3⟩ := im3 h1
  refine ⟨_, rfl, _, rfl, m, hd.name, hd, h1.mono (Tk.of sq), rfl, lookH_of ok.hn hhd, fun v iv => ?_⟩
  obtain ⟨ha, x1, x2, x3, rfl, eh, i1, i2, i3⟩ := im3 iv
  obtain ⟨pa, po, pxs, rfl, ep, _, ip⟩ := im_pt i2
  have tk0 : ∀ {H' : Hp}, Same H H' → Tk (upd H q (.dK [])) H' := fun s b o e t => by
    by_cases hb : b = q
    · subst hb
      rw [upd_same] at e
      cases e
      exact t.elim
    · rw [upd_ne hb] at e
      exact s _ _ e
  refine ⟨ha, _, _, _, rfl, rfl, SqT.of eh, at1, pa, rfl, ⟨_, sqT_frz ep⟩, for_tup (xs := pxs) (fun i σ H' => FilledK H q ((hd.boxes.take i).map fun b => (b.1, nt m.kinds 4 b.2)) H' ∧ ∃ o3 o4, σ = [some (.ref fa), some (.str hd.name), some (.ref q), o3, o4]) ⟨⟨sq, [], upd_same, .nil⟩, _, _, rfl⟩
    (fun i σ H' _ z => sqT_frz (o := po) (tk0 z.1.1 _ _ ep trivial)) ?_ ?_⟩
  · rintro i x σ H' hx ⟨⟨s1, kvs, hd1, kv⟩, o3, o4, rfl⟩
    obtain ⟨pp, hp, ix⟩ := iml_map ip hx
    obtain ⟨xa, x1, x2, rfl, ex, j4, j5⟩ := im2 (ix.mono (tk0 s1))
    cases im_str j4
    cases im_str j5
    refine ⟨xa, _, rfl, SqT.of ex, rfl, _, _, rfl, _, _, rfl, rfl, ?_⟩
    refine ⟨_, rfl, fa, _, _, _, rfl, rfl, SqT.of (s1 _ _ ef), at0, _, rfl, m.kinds, pp.2, j1.mono (Tk.of s1), rfl, ok.ks.num, hk.lev pp (List.mem_of_getElem? hp), (fun kd hkd => Nat.le_trans (ok.ks.few kd hkd) (by decide)), fun H2 u s2 iu => ?_⟩
    have hlen : kvs.length ≤ 1000 := by
      rw [kv.length, List.length_map, List.length_take]
      have := hk.few
      omega
    refine ⟨_, rfl, _, rfl, q, _, rfl, DPut.k (k := Sum.inr pp.1) (s2 _ _ hd1) (lt_size (by omega)), ?_, _, _, rfl⟩
    have z := FilledK.put hq (s1.trans s2) (s2 _ _ hd1) (kv.mono (Tk.of s2)) (x := pp.1) iu
    rw [putE_step (g := fun p : Str × Str => p.1) (f := fun b : Str × Str => nt m.kinds 4 b.2) hk.nd hp] at z
    exact z
  · rintro σ H' ⟨⟨s1, kvs, hd1, kv⟩, o3, o4, rfl⟩
    rw [ip.length, List.length_map, List.take_length] at kv
    refine ⟨_, rfl, le_size (by show 2 ≤ 100000; decide), fun r hr => ?_⟩
    have s2 : Same H' (upd H' r (.tup [.int 0, .ref q])) := same_new hr
    exact k1 _ r q kvs (s1.trans s2) upd_same (s2 _ _ hd1) (kv.mono (Tk.of s2))
end
end SwK
set_option maxHeartbeats 8000000
/-! the plain house: a hand made -/
namespace SwK
open PySem PySem.Spec PyProof.Rows L2
def lnUp (lf : Str → Addr) (c : Str) (l : Addr) : Str → Addr := fun n => if n = c then l else lf n
theorem lnUp_same {lf : Str → Addr} {c : Str} {l : Addr} : lnUp lf c l c = l := if_pos rfl
theorem lnUp_ne {lf : Str → Addr} {c n : Str} {l : Addr} (h : n ≠ c) : lnUp lf c l n = lf n := if_neg h
/-- an instance in the making -/
structure Pre (H G : Hp) (x C dx : Addr) (fs : List (Str × V)) : Prop where
  bt : Bt (fun a => a = x) H G
  obj : G x = some (.ins C dx fs)
theorem Pre.put {H G : Hp} {x C dx : Addr} {fs fs' : List (Str × V)} (p : Pre H G x C dx fs) : Pre H (upd G x (.ins C dx fs')) x C dx fs' := ⟨p.bt.trans (Bt.put rfl), upd_same⟩
theorem Pre.same {H G G' : Hp} {x C dx : Addr} {fs : List (Str × V)} (s : Same G G') (p : Pre H G x C dx fs) : Pre H G' x C dx fs := ⟨p.bt.trans (Bt.of s), s _ _ p.obj⟩
theorem Pre.ne {H G : Hp} {x C dx z : Addr} {fs : List (Str × V)} (p : Pre H G x C dx fs) (hz : G z = none) : z ≠ x := by
  rintro rfl
  rw [p.obj] at hz
  cases hz
theorem Pre.new {H G : Hp} {x C dx z : Addr} {fs : List (Str × V)} (p : Pre H G x C dx fs) (hz : G z = none) : H z = none := by
  cases e : H z with
  | none => rfl
  | some o =>
    rw [p.bt _ _ e (p.ne hz)] at hz
    cases hz
theorem Pre.tk {H G : Hp} {x C dx : Addr} {fs : List (Str × V)} (p : Pre H G x C dx fs) (hx : ∀ o, H x = some o → ¬ TupO o) : Tk H G := p.bt.tk fun a o ea e => by
  have ea : a = x := ea
  rw [ea] at e
  exact hx o e
section
variable {P : Program} {w : World} {K : PySem.W.Frag} {mg : Str → Option Value} {base : Heap}
/- Lone.__init__: slots 0 self 1 make 2 h 3 letters 4 stand 5 c 6 come 7 to 8 kind -/
theorem sc_Lone_init : FnScope ["self", "make", "h", "letters", "stand", "c", "come", "to", "kind"] ["self", "make", "h", "letters", "stand"] (defScope s_Lone_init) := ⟨rfl, rfl, rfl, by decide +kernel, rfl, by decide +kernel, by decide +kernel⟩
theorem ok_Lone (T : Txt K mg) (c_first_stand : C8.Cal P w K mg base 8 "first_stand" spFirstS []) (c_hand_of : C8.Cal P w K mg base 2 "hand_of" spHandOf []) (c_ways_of : C8.Cal P w K mg base 1 "ways_of" spWaysOf []) : C8.Mak P w K mg base 9 "Lone" (C_Lone K) (spLone K) [.non] := by
  obtain ⟨fd, F⟩ := f_Lone_init T
  obtain ⟨ds, hds, hb⟩ := F.binds1 (ps := ["self", "make", "h", "letters", "stand"]) 4 0 (by simp) rfl (fun T kV doc pm an cdv ct us its h1 h2 => match us, its, h1, h2 with | [_, _, _, _], [_], _, _ => ⟨_, rfl, rfl⟩)
  refine ⟨_, fd, _, ds, mk_Lone T, mkFn (k := 8) F sc_Lone_init (fun vs H Q E h => ?_) (fun vs H Q E h => ?_), g_Lone T, hb, hds⟩
  · obtain ⟨a, b, c, d, e, rfl, _⟩ := sp5_len h
    rfl
  obtain ⟨a, b, c, d, e, rfl, h⟩ := sp5_len h
  intro cdv A outer s E hr
  have hu := hu_of hr
  obtain ⟨τ0, m, hd, x, dx, lt, ok, hhd, w0, tx0, rfl, hx, h1, rfl, rfl, hlt, rfl, k1⟩ := h
  have cl := cl_Lone T
  have hdk := ok.hands hd hhd
  have hxt : ∀ o, H x = some o → ¬ TupO o := fun o e => by
    rw [hx] at e
    cases e
    exact ntI
  refine ⟨_, (pss_cons (ps_if (pt_cmpR op_isN (pv 4) pe_non (nomark _)) (pss_one (ps_set (i := 4) sc_Lone_init.nd rfl (by first | exact .inl rfl | exact .inr rfl) (C8.pe_c c_first_stand hr (by omega) rfl (pa_cons (pv 1) (pa_cons (pv 2) pa_nil))))) pss_nil)
        (pss_cons (ps_fld (pv 0) (pe_ix ix_tup (pv 1) pe_int (fun _ _ => rfl)) rfl)
        (pss_cons (ps_fld (pv 0) (pe_ix ix_tup (C8.pe_c c_hand_of hr (by omega) rfl (pa_cons (pv 1) (pa_cons (pv 2) pa_nil))) pe_int (fun _ _ => rfl)) rfl)
        (pss_cons (ps_fld (pv 0) (C8.pe_c c_ways_of hr (by omega) rfl (pa_cons (pe_fld (pv 0) rfl) pa_nil)) rfl)
        (pss_cons (ps_fld (pv 0) (pe_ix ix_tup (pv 4) pe_int (fun _ _ => rfl)) rfl)
        (pss_cons (ps_fld (pv 0) (pe_callTy call_dictD rfl (z_dict T) (by decide +kernel) (pa_cons (pe_ix ix_tup (pv 4) pe_int (fun _ _ => rfl)) pa_nil)) rfl)
        (pss_cons (ps_fld (pv 0) pe_dnewK rfl)
        (pss_cons (ps_fld (pv 0) pe_dnewK rfl)
        (pss_cons (ps_for PassesOwn.never rfl (pi_tup (pe_ix ix_tup (pv 1) pe_int (fun _ _ => rfl))) (pg_tup rfl (pgs_cons (pg_name (i := 5) sc_Lone_init.nd rfl (by first | exact .inl rfl | exact .inr rfl)) (pgs_cons (pg_name (i := 6) sc_Lone_init.nd rfl (by first | exact .inl rfl | exact .inr rfl)) (pgs_cons (pg_name (i := 7) sc_Lone_init.nd rfl (by first | exact .inl rfl | exact .inr rfl)) (pgs_cons (pg_name (i := 8) sc_Lone_init.nd rfl (by first | exact .inl rfl | exact .inr rfl)) pgs_nil))))) (pss_cons (ps_if (pt_cmpR op_eq (pv 7) (pv 2) (nomark _)) (pss_one (ps_dput hu (pe_fld (pv 0) rfl) (pv 5) (pe_callTy call_list_of rfl (z_list T) (by decide +kernel) (pa_cons (pe_dget2 hu (pv 3) (pv 5) (pe_lst pa_nil) ⟨rfl, rfl, rfl, rfl⟩) pa_nil)) rfl)) pss_nil)
        (pss_one (ps_if (pt_cmpR op_eq (pv 6) (pv 2) (nomark _)) (pss_one (ps_dput hu (pe_fld (pv 0) rfl) (pv 5) (pe_lst pa_nil) rfl)) pss_nil))))
        (pss_cons (ps_fld (pv 0) (pe_lst pa_nil) rfl)
        (pss_one (ps_fld (pv 0) pe_int rfl)))))))))))), ?_⟩
  refine ⟨_, rfl, rfl, _, rfl, iteT ?_⟩
  refine ⟨_, rfl, _, rfl, m, hd, ok, hhd, h1, rfl, fun H1 r1 q1 kv1 s1 er1 eq1 ikv => ?_⟩
  have p1 : Pre H H1 x (C_Lone K) dx [] := ⟨Bt.of s1, s1 _ _ hx⟩
  obtain ⟨fa, f1, f2, f3, rfl, ef, j1, j2, j3⟩ := im3 (h1.mono (Tk.of s1))
  obtain ⟨ca, cxs, rfl, ec, ic⟩ := im_tup j2
  have lc : cxs.length = m.chans.length := by rw [ic.length, List.length_map]
  refine ⟨_, rfl, fa, _, _, _, rfl, rfl, SqT.of ef, at0, _, rfl, x, _, dx, _, rfl, p1.obj, cl, na_Lone_kinds T, (by show (0 : Nat) < 1000; decide), ?_⟩
  generalize hG2 : upd H1 x _ = G2
  have p2 : Pre H G2 x (C_Lone K) dx (putF "kinds" f1 []) := by rw [← hG2]; exact p1.put
  have b2 : Bt (fun a => a = x) H1 G2 := by rw [← hG2]; exact Bt.put rfl
  refine ⟨_, rfl, _, rfl, m, hd.name, hd, h1.mono (p2.tk hxt), rfl, lookH_of ok.hn hhd, fun v iv => ?_⟩
  obtain ⟨ha, x1, x2, ra, rfl, eh, i1, i2, i3⟩ := im3 iv
  refine ⟨ha, _, _, _, rfl, rfl, SqT.of eh, at2, _, rfl, x, _, dx, _, rfl, p2.obj, cl, na_Lone_rows T, lt1000 (by kernel_rfl), ?_⟩
  generalize hG3 : upd G2 x _ = G3
  have p3 : Pre H G3 x (C_Lone K) dx (putF "rows" ra (putF "kinds" f1 [])) := by rw [← hG3]; exact p2.put
  have b3 : Bt (fun a => a = x) G2 G3 := by rw [← hG3]; exact Bt.put rfl
  have xG2 : ∀ o, G2 x = some o → ¬ TupO o := fun o e => by
    rw [p2.obj] at e
    cases e
    exact ntI
  have tk3 : Tk G2 G3 := b3.tk fun a o ea e => by
    have ea : a = x := ea
    rw [ea] at e
    exact xG2 o e
  refine ⟨_, rfl, x, _, dx, _, _, rfl, p3.obj, cl, na_Lone_rows T, (by kernel_rfl : (putF "rows" ra (putF "kinds" f1 [])).lookup ("rows" : Str) = some ra), hd.rows, i3.mono tk3, (by have := hdk.rfew; omega), fun G4 la lxs s4 hla ela ila => ?_⟩
  have p4 := p3.same s4
  refine ⟨_, rfl, x, _, dx, _, rfl, p4.obj, cl, na_Lone_leads T, lt1000 (by kernel_rfl), ?_⟩
  generalize hG5 : upd G4 x _ = G5
  have p5 : Pre H G5 x (C_Lone K) dx (putF "leads" (.ref la) (putF "rows" ra (putF "kinds" f1 []))) := by rw [← hG5]; exact p4.put
  have b5 : Bt (fun a => a = x) G4 G5 := by rw [← hG5]; exact Bt.put rfl
  have nla := p3.ne hla
  have nr1 : r1 ≠ x := by rintro rfl; rw [p1.obj] at er1; cases er1
  have nq1 : q1 ≠ x := by rintro rfl; rw [p1.obj] at eq1; cases eq1
  have b15 : Bt (fun a => a = x) H1 G5 := ((b2.trans b3).trans (Bt.of s4)).trans b5
  refine ⟨_, rfl, r1, _, _, _, rfl, rfl, SqT.of (b15 _ _ er1 nr1), at0, _, rfl, x, _, dx, _, rfl, p5.obj, cl, na_Lone_at T, lt1000 (by kernel_rfl), ?_⟩
  generalize hG6 : upd G5 x _ = G6
  have p6 : Pre H G6 x (C_Lone K) dx (putF "at" (.int 0) (putF "leads" (.ref la) (putF "rows" ra (putF "kinds" f1 [])))) := by rw [← hG6]; exact p5.put
  have b6 : Bt (fun a => a = x) G5 G6 := by rw [← hG6]; exact Bt.put rfl
  have b16 := b15.trans b6
  refine ⟨_, rfl, r1, _, _, _, rfl, rfl, SqT.of (b16 _ _ er1 nr1), at1, q1, kv1, rfl, rd_of (b16 _ _ eq1 nq1), fun bx hbx => ?_⟩
  have s7 : Same G6 (upd G6 bx (.dK kv1)) := same_new hbx
  have nbx := p6.ne hbx
  have p7 := p6.same s7
  refine ⟨_, rfl, x, _, dx, _, rfl, p7.obj, cl, na_Lone_held T, lt1000 (by kernel_rfl), ?_⟩
  generalize hG8 : upd (upd G6 bx (.dK kv1)) x _ = G8
  have p8 : Pre H G8 x (C_Lone K) dx (putF "held" (.ref bx) (putF "at" (.int 0) (putF "leads" (.ref la) (putF "rows" ra (putF "kinds" f1 []))))) := by rw [← hG8]; exact p7.put
  have b8 : Bt (fun a => a = x) (upd G6 bx (.dK kv1)) G8 := by rw [← hG8]; exact Bt.put rfl
  intro cx hcx
  have s9 : Same G8 (upd G8 cx (.dK [])) := same_new hcx
  have ncx := p8.ne hcx
  have p9 := p8.same s9
  refine ⟨_, rfl, x, _, dx, _, rfl, p9.obj, cl, na_Lone_coming T, lt1000 (by kernel_rfl), ?_⟩
  generalize hG10 : upd (upd G8 cx (.dK [])) x _ = G10
  have p10 : Pre H G10 x (C_Lone K) dx (putF "coming" (.ref cx) (putF "held" (.ref bx) (putF "at" (.int 0) (putF "leads" (.ref la) (putF "rows" ra (putF "kinds" f1 [])))))) := by rw [← hG10]; exact p9.put
  have b10 : Bt (fun a => a = x) (upd G8 cx (.dK [])) G10 := by rw [← hG10]; exact Bt.put rfl
  intro gx hgx
  have s11 : Same G10 (upd G10 gx (.dK [])) := same_new hgx
  have ngx := p10.ne hgx
  have p11 := p10.same s11
  refine ⟨_, rfl, x, _, dx, _, rfl, p11.obj, cl, na_Lone_gone T, lt1000 (by kernel_rfl), ?_⟩
  generalize hG12 : upd (upd G10 gx (.dK [])) x _ = G12
  have p12 : Pre H G12 x (C_Lone K) dx (putF "gone" (.ref gx) (putF "coming" (.ref cx) (putF "held" (.ref bx) (putF "at" (.int 0) (putF "leads" (.ref la) (putF "rows" ra (putF "kinds" f1 []))))))) := by rw [← hG12]; exact p11.put
  have b12 : Bt (fun a => a = x) (upd G10 gx (.dK [])) G12 := by rw [← hG12]; exact Bt.put rfl
  have lkc : (putF "gone" (.ref gx) (putF "coming" (.ref cx) (putF "held" (.ref bx) (putF "at" (.int 0) (putF "leads" (.ref la) (putF "rows" ra (putF "kinds" f1 []))))))).lookup ("coming" : Str) = some (.ref cx) := by kernel_rfl
  have lkg : (putF "gone" (.ref gx) (putF "coming" (.ref cx) (putF "held" (.ref bx) (putF "at" (.int 0) (putF "leads" (.ref la) (putF "rows" ra (putF "kinds" f1 []))))))).lookup ("gone" : Str) = some (.ref gx) := by kernel_rfl
  -- what stands at the loop
  have b68 : Bt (fun a => a = x) G6 G8 := (Bt.of s7).trans b8
  have b810 : Bt (fun a => a = x) G8 G10 := (Bt.of s9).trans b10
  have b1012 : Bt (fun a => a = x) G10 G12 := (Bt.of s11).trans b12
  have b612 := (b68.trans b810).trans b1012
  have ela12 : G12 la = some (.lst lxs) := b612 _ _ (b6 _ _ (b5 _ _ ela nla) nla) nla
  have ebx12 : G12 bx = some (.dK kv1) := b1012 _ _ (b810 _ _ (b8 _ _ upd_same nbx) nbx) nbx
  have ecx12 : G12 cx = some (.dK []) := b1012 _ _ (b10 _ _ upd_same ncx) ncx
  have egx12 : G12 gx = some (.dK []) := b12 _ _ upd_same ngx
  have hlan := p3.new hla
  have hbxn := p6.new hbx
  have hcxn := p8.new hcx
  have hgxn := p10.new hgx
  have tk12 : Tk H G12 := p12.tk hxt
  have nca : ca ≠ x := by rintro rfl; rw [p1.obj] at ec; cases ec
  have nfa : fa ≠ x := by rintro rfl; rw [p1.obj] at ef; cases ef
  have b112 : Bt (fun a => a = x) H1 G12 := b16.trans b612
  -- the owners
  have w12 : OwnAt G12 τ0 := fun a t e => by
    obtain ⟨o, q, n⟩ := w0 a t e
    exact ⟨o, p12.bt _ _ q (fun z => by have z : a = x := z; rw [z, tx0] at e; cases e), n⟩
  have nt : ∀ {z : Addr}, H z = none → τ0 z = none := fun hz => w0.none hz
  have dla : la ≠ bx ∧ la ≠ cx ∧ la ≠ gx := ⟨(by rintro rfl; rw [ela12] at ebx12; cases ebx12), (by rintro rfl; rw [ela12] at ecx12; cases ecx12), (by rintro rfl; rw [ela12] at egx12; cases egx12)⟩
  have dbx : bx ≠ cx ∧ bx ≠ gx := by
    have e8 : G8 bx = some (.dK kv1) := b8 _ _ upd_same nbx
    refine ⟨(by rintro rfl; rw [e8] at hcx; cases hcx), (by rintro rfl; rw [b810 _ _ e8 nbx] at hgx; cases hgx)⟩
  have dcx : cx ≠ gx := by
    rintro rfl
    rw [b10 _ _ upd_same ncx] at hgx
    cases hgx
  have key : ∃ τ, (∀ a t, τ0 a = some t → τ a = some t) ∧ (∀ a t, τ a = some t → τ0 a = some t ∨ a = x ∨ H a = none) ∧ OwnAt G12 τ ∧ τ x = some (3, hd.name) ∧ τ la = some (7, hd.name) ∧ τ bx = some (4, hd.name) ∧ τ cx = some (8, hd.name) ∧ τ gx = some (9, hd.name) := by
    refine ⟨tagUp (tagUp (tagUp (tagUp (tagUp τ0 x (3, hd.name)) la (7, hd.name)) bx (4, hd.name)) cx (8, hd.name)) gx (9, hd.name), fun a t e => ?_, fun a t e => ?_, ?_, ?_, ?_, ?_, ?_, tagUp_same⟩
    · have hz : ∀ {z : Addr}, τ0 z = none → a ≠ z := fun hz z => by rw [z, hz] at e; cases e
      rw [tagUp_ne (hz (nt hgxn)), tagUp_ne (hz (nt hcxn)), tagUp_ne (hz (nt hbxn)), tagUp_ne (hz (nt hlan)), tagUp_ne (hz tx0)]
      exact e
    · by_cases z1 : a = gx
      · rw [z1]; exact .inr (.inr hgxn)
      rw [tagUp_ne z1] at e
      by_cases z1 : a = cx
      · rw [z1]; exact .inr (.inr hcxn)
      rw [tagUp_ne z1] at e
      by_cases z1 : a = bx
      · rw [z1]; exact .inr (.inr hbxn)
      rw [tagUp_ne z1] at e
      by_cases z1 : a = la
      · rw [z1]; exact .inr (.inr hlan)
      rw [tagUp_ne z1] at e
      by_cases z1 : a = x
      · exact .inr (.inl z1)
      rw [tagUp_ne z1] at e
      exact .inl e
    · exact ((((w12.up1 p12.obj ntI).up1 ela12 ntL).up1 ebx12 ntK).up1 ecx12 ntK).up1 egx12 ntK
    · rw [tagUp_ne (Ne.symm ngx), tagUp_ne (Ne.symm ncx), tagUp_ne (Ne.symm nbx), tagUp_ne (Ne.symm nla), tagUp_same]
    · rw [tagUp_ne dla.2.2, tagUp_ne dla.2.1, tagUp_ne dla.1, tagUp_same]
    · rw [tagUp_ne dbx.2, tagUp_ne dbx.1, tagUp_same]
    · rw [tagUp_ne dcx, tagUp_same]
  obtain ⟨τ, u1, u2, u3, u4, u5, u6, u7, u8⟩ := key
  have hltx : lt ≠ x := by rintro rfl; rw [hx] at hlt; cases hlt
  refine ⟨_, rfl, fa, _, _, _, rfl, rfl, SqT.of (b112 _ _ ef nfa), at1, ca, rfl, ⟨_, SqT.of (b112 _ _ ec nca)⟩, for_tup (xs := cxs)
    (fun i σ H' => (∃ τ lf ck gk, (∀ a t, τ0 a = some t → τ a = some t) ∧ (∀ a t, τ a = some t → τ0 a = some t ∨ a = x ∨ H a = none) ∧ OwnAt H' τ ∧ τ x = some (3, hd.name) ∧ τ la = some (7, hd.name) ∧ τ bx = some (4, hd.name) ∧ τ cx = some (8, hd.name) ∧ τ gx = some (9, hd.name) ∧
        H' cx = some (.dK ck) ∧ H' gx = some (.dK gk) ∧ ck.length ≤ i ∧ gk.length ≤ i ∧ (∀ ch ∈ m.chans.take i, ch.dst = hd.name → valV ck (Sum.inr ch.name) = some (.ref (lf ch.name)) ∧ τ (lf ch.name) = some (6, ch.name) ∧ H' (lf ch.name) = some (.lst []))) ∧
      Bt (fun a => a = x ∨ a = cx ∨ a = gx) G12 H' ∧ H' x = some (.ins (C_Lone K) dx (putF "gone" (.ref gx) (putF "coming" (.ref cx) (putF "held" (.ref bx) (putF "at" (.int 0) (putF "leads" (.ref la) (putF "rows" ra (putF "kinds" f1 [])))))))) ∧
      ∃ o5 o6 o7 o8, σ = [some (.ref x), some (.ref fa), some (.str hd.name), some (.ref lt), some (.ref r1), o5, o6, o7, o8])
    ⟨⟨τ, fun _ => x, [], [], u1, u2, u3, u4, u5, u6, u7, u8, ecx12, egx12, Nat.zero_le _, Nat.zero_le _, fun ch hc => by cases hc⟩, Bt.of (Same.refl _), p12.obj, _, _, _, _, rfl⟩ (fun i σ H' _ z => ?_) ?_ ?_⟩
  · refine SqT.of (z.2.1 _ _ (b112 _ _ ec nca) ?_)
    have eca : G12 ca = some (.tup cxs) := b112 _ _ ec nca
    rintro (q | q | q)
    · exact nca q
    · rw [q, ecx12] at eca
      cases eca
    · rw [q, egx12] at eca
      cases eca
  · rintro i y σ H' hy ⟨⟨τ2, lf, ck, gk, g1, g2, g3, g4, g5, g6, g7, g8, g9, g10, g11, g12, g13⟩, bt, ex, o5, o6, o7, o8, rfl⟩
    have tkx : Tk G12 H' := bt.tk fun a o ea e => by
      rcases ea with q | q | q
      · rw [q, p12.obj] at e
        cases e
        exact ntI
      · rw [q, ecx12] at e
        cases e
        exact ntK
      · rw [q, egx12] at e
        cases e
        exact ntK
    obtain ⟨ch, hcc, iy⟩ := iml_map ic hy
    have b1t : Tk H1 G12 := b112.tk fun a o ea e => by
      have ea : a = x := ea
      rw [ea, p1.obj] at e
      cases e
      exact ntI
    obtain ⟨ya, y1, y2, y3, y4, rfl, ey, n1, n2, n3, n4⟩ := im4 ((iy.mono b1t).mono tkx)
    cases im_str n1
    cases im_str n2
    cases im_str n3
    cases im_str n4
    have hi10 : i < 10 := by
      have := (List.getElem?_eq_some_iff.mp hcc).1
      have := ok.cfew
      omega
    have nname : ¬ ch.name ∈ (m.chans.take i).map Ch.name := nd_take ok.cn hcc
    refine ⟨ya, _, rfl, SqT.of ey, rfl, _, _, rfl, _, _, rfl, _, _, rfl, _, _, rfl, rfl, ?_⟩
    refine ⟨_, rfl, _, rfl, rfl, _, rfl, ?_⟩
    have hlt' : H' lt = some (.dK []) := bt _ _ (p12.bt _ _ hlt hltx) (by
      rintro (q | q | q)
      · exact hltx q
      · rw [q, hcxn] at hlt
        cases hlt
      · rw [q, hgxn] at hlt
        cases hlt)
    by_cases hdst : ch.dst = hd.name
    · rw [hdst, strT]
      refine iteT ⟨_, rfl, lt, rfl, .inl ⟨[], rd_of hlt'⟩, _, rfl, le_size (by show 0 ≤ 100000; decide), fun eq heq => ?_⟩
      have s1 : Same H' (upd H' eq (.lst [])) := same_new heq
      refine ⟨none, dget_s (kvs := []) (rd_of (s1 _ _ hlt')), eq, [], rfl, .inl (SqL.of upd_same), fun l hl => ?_⟩
      have s2 : Same (upd H' eq (.lst [])) (upd (upd H' eq (.lst [])) l (.lst [])) := same_new hl
      generalize hHl : upd (upd H' eq (.lst [])) l (.lst []) = Hl at s2 ⊢
      have s12 := s1.trans s2
      have hl' : H' l = none := new_old s1 hl
      have el : Hl l = some (.lst []) := by rw [← hHl, upd_same]
      have nl : ∀ {z : Addr} {o : HO}, H' z = some o → l ≠ z := fun h e => by rw [e, h] at hl'; cases hl'
      have hln : H l = none := by
        cases e : H l with
        | none => rfl
        | some o =>
          rw [bt _ _ (p12.bt _ _ e (nl ex)) (by rintro (q | q | q); exact nl ex q; exact nl g9 q; exact nl g10 q)] at hl'
          cases hl'
      refine ⟨_, rfl, x, _, dx, _, _, rfl, s12 _ _ ex, cl, na_Lone_coming T, lkc, _, rfl, cx, _, rfl, DPut.k (k := Sum.inr ch.name) (s12 _ _ g9) (lt_size (by omega)), ?_⟩
      have up0 : ∀ z t, τ2 z = some t → tagUp τ2 l (6, ch.name) z = some t := fun z t e => by
        rw [tagUp_ne (by rintro rfl; rw [g3.none hl'] at e; cases e)]
        exact e
      have tkc : ∀ a o, H' a = some o → a ≠ cx → (upd Hl cx (.dK (putK ck (Sum.inr ch.name) (.ref l)))) a = some o := fun a o e n => (upd_ne n).trans (s12 _ _ e)
      have elf : (upd Hl cx (.dK (putK ck (Sum.inr ch.name) (.ref l)))) l = some (.lst []) := (upd_ne (nl g9)).trans el
      have ecf : (upd Hl cx (.dK (putK ck (Sum.inr ch.name) (.ref l)))) cx = some (.dK (putK ck (Sum.inr ch.name) (.ref l))) := upd_same
      have w2 : OwnAt (upd Hl cx (.dK (putK ck (Sum.inr ch.name) (.ref l)))) (tagUp τ2 l (6, ch.name)) := ((g3.same s12).put ntK).up1 elf ntL
      generalize upd Hl cx (.dK (putK ck (Sum.inr ch.name) (.ref l))) = H2 at tkc elf ecf w2 ⊢
      have inv : ∃ (τ2' : Tags) (lf2 : Str → Addr) (ck2 : List (Key × V)), (∀ a t, τ0 a = some t → τ2' a = some t) ∧ (∀ a t, τ2' a = some t → τ0 a = some t ∨ a = x ∨ H a = none) ∧ OwnAt H2 τ2' ∧ τ2' x = some (3, hd.name) ∧ τ2' la = some (7, hd.name) ∧ τ2' bx = some (4, hd.name) ∧ τ2' cx = some (8, hd.name) ∧ τ2' gx = some (9, hd.name) ∧
          H2 cx = some (.dK ck2) ∧ H2 gx = some (.dK gk) ∧ ck2.length ≤ i + 1 ∧ (∀ ch ∈ m.chans.take (i + 1), ch.dst = hd.name → valV ck2 (Sum.inr ch.name) = some (.ref (lf2 ch.name)) ∧ τ2' (lf2 ch.name) = some (6, ch.name) ∧ H2 (lf2 ch.name) = some (.lst [])) := by
        refine ⟨tagUp τ2 l (6, ch.name), lnUp lf ch.name l, _, fun a t e => up0 _ _ (g1 a t e), fun a t e => ?_, w2, up0 _ _ g4, up0 _ _ g5, up0 _ _ g6, up0 _ _ g7, up0 _ _ g8, ecf, tkc _ _ g10 (Ne.symm dcx), Nat.le_trans (putK_len _ _ _) (by omega), fun ch' hc' hd' => ?_⟩
        · by_cases q : a = l
          · rw [q]
            exact .inr (.inr hln)
          · rw [tagUp_ne q] at e
            exact g2 a t e
        · rw [take_snoc hcc] at hc'
          rcases List.mem_append.mp hc' with h | h
          · have hne : ch'.name ≠ ch.name := fun z => nname (z ▸ List.mem_map.mpr ⟨ch', h, rfl⟩)
            obtain ⟨z1, z2, z3⟩ := g13 ch' h hd'
            rw [valV_put, if_neg (fun z => hne (Sum.inr.inj z)), lnUp_ne hne]
            refine ⟨z1, up0 _ _ z2, tkc _ _ z3 ?_⟩
            intro z
            rw [z, g7] at z2
            cases z2
          · have := List.mem_singleton.mp h
            subst this
            rw [valV_put, if_pos rfl, lnUp_same]
            exact ⟨rfl, tagUp_same, elf⟩
      have ex2 := tkc _ _ ex (Ne.symm ncx)
      have bt2 : Bt (fun a => a = x ∨ a = cx ∨ a = gx) G12 H2 := fun a o e na => tkc _ _ (bt _ _ e na) fun z => na (.inr (.inl z))
      clear g1 g2 g3 g4 g5 g6 g7 g8 g9 g10 g11 g13
      obtain ⟨τ2, lf2, ck2, g1, g2, g3, g4, g5, g6, g7, g8, g9, g10, g11, g13⟩ := inv
      refine ⟨_, rfl, _, rfl, rfl, _, rfl, ?_⟩
      by_cases hsrc : ch.src = hd.name
      · rw [hsrc, strT]
        refine iteT ⟨le_size (by show 0 ≤ 100000; decide), fun l2 hl2 => ?_⟩
        have s3 : Same H2 (upd H2 l2 (.lst [])) := same_new hl2
        refine ⟨_, rfl, x, _, dx, _, _, rfl, s3 _ _ ex2, cl, na_Lone_gone T, lkg, _, rfl, gx, _, rfl, DPut.k (k := Sum.inr ch.name) (s3 _ _ g10) (lt_size (by omega)), ?_⟩
        have tkg : ∀ a o, H2 a = some o → a ≠ gx → (upd (upd H2 l2 (.lst [])) gx (.dK (putK gk (Sum.inr ch.name) (.ref l2)))) a = some o := fun a o e n => (upd_ne n).trans (s3 _ _ e)
        refine ⟨⟨τ2, lf2, ck2, _, g1, g2, (g3.same s3).put ntK, g4, g5, g6, g7, g8, tkg _ _ g9 dcx, upd_same, g11, Nat.le_trans (putK_len _ _ _) (by omega), fun ch' hc' hd' => ?_⟩, ?_, tkg _ _ ex2 (Ne.symm ngx), _, _, _, _, rfl⟩
        · obtain ⟨y1, y2, y3⟩ := g13 ch' hc' hd'
          refine ⟨y1, y2, tkg _ _ y3 ?_⟩
          intro z
          rw [z, g8] at y2
          cases y2
        · intro a o e na
          exact tkg _ _ (bt2 _ _ e na) fun z => na (.inr (.inr z))
      · rw [strF hsrc]
        exact iteF ⟨⟨τ2, lf2, ck2, gk, g1, g2, g3, g4, g5, g6, g7, g8, g9, g10, g11, by omega, g13⟩, bt2, ex2, _, _, _, _, rfl⟩
    · rw [strF hdst]
      refine iteF ?_
      have g13 : ∀ ch' ∈ m.chans.take (i + 1), ch'.dst = hd.name → valV ck (Sum.inr ch'.name) = some (.ref (lf ch'.name)) ∧ τ2 (lf ch'.name) = some (6, ch'.name) ∧ H' (lf ch'.name) = some (.lst []) := fun ch' hc' hd' => by
        rw [take_snoc hcc] at hc'
        rcases List.mem_append.mp hc' with h | h
        · exact g13 ch' h hd'
        · have := List.mem_singleton.mp h
          subst this
          exact absurd hd' hdst
      have g11 : ck.length ≤ i + 1 := by omega
      have ex2 := ex
      have bt2 := bt
      generalize ck = ck2 at g9 g11 g13
      generalize lf = lf2 at g13
      generalize H' = H2 at *
      refine ⟨_, rfl, _, rfl, rfl, _, rfl, ?_⟩
      by_cases hsrc : ch.src = hd.name
      · rw [hsrc, strT]
        refine iteT ⟨le_size (by show 0 ≤ 100000; decide), fun l2 hl2 => ?_⟩
        have s3 : Same H2 (upd H2 l2 (.lst [])) := same_new hl2
        refine ⟨_, rfl, x, _, dx, _, _, rfl, s3 _ _ ex2, cl, na_Lone_gone T, lkg, _, rfl, gx, _, rfl, DPut.k (k := Sum.inr ch.name) (s3 _ _ g10) (lt_size (by omega)), ?_⟩
        have tkg : ∀ a o, H2 a = some o → a ≠ gx → (upd (upd H2 l2 (.lst [])) gx (.dK (putK gk (Sum.inr ch.name) (.ref l2)))) a = some o := fun a o e n => (upd_ne n).trans (s3 _ _ e)
        refine ⟨⟨τ2, lf2, ck2, _, g1, g2, (g3.same s3).put ntK, g4, g5, g6, g7, g8, tkg _ _ g9 dcx, upd_same, g11, Nat.le_trans (putK_len _ _ _) (by omega), fun ch' hc' hd' => ?_⟩, ?_, tkg _ _ ex2 (Ne.symm ngx), _, _, _, _, rfl⟩
        · obtain ⟨y1, y2, y3⟩ := g13 ch' hc' hd'
          refine ⟨y1, y2, tkg _ _ y3 ?_⟩
          intro z
          rw [z, g8] at y2
          cases y2
        · intro a o e na
          exact tkg _ _ (bt2 _ _ e na) fun z => na (.inr (.inr z))
      · rw [strF hsrc]
        exact iteF ⟨⟨τ2, lf2, ck2, gk, g1, g2, g3, g4, g5, g6, g7, g8, g9, g10, g11, by omega, g13⟩, bt2, ex2, _, _, _, _, rfl⟩
  · rintro σ H' ⟨⟨τ2, lf, ck, gk, g1, g2, g3, g4, g5, g6, g7, g8, g9, g10, g11, g12, g13⟩, bt, ex, o5, o6, o7, o8, rfl⟩
    rw [lc, List.take_length] at g13
    have hcf := ok.cfew
    have tkx : Tk G12 H' := bt.tk fun a o ea e => by
      rcases ea with q | q | q
      · rw [q, p12.obj] at e
        cases e
        exact ntI
      · rw [q, ecx12] at e
        cases e
        exact ntK
      · rw [q, egx12] at e
        cases e
        exact ntK
    refine ⟨le_size (by show 0 ≤ 100000; decide), fun nx hnx => ?_⟩
    have s2 : Same H' (upd H' nx (.lst [])) := same_new hnx
    have nn : ∀ {z : Addr} {o : HO}, H' z = some o → nx ≠ z := fun h e => by rw [e, h] at hnx; cases hnx
    refine ⟨_, rfl, x, _, dx, _, rfl, s2 _ _ ex, cl, na_Lone_notes T, lt1000 (by kernel_rfl), ?_⟩
    refine ⟨_, rfl, x, _, dx, _, rfl, upd_same, cl, na_Lone_done T, lt1000 (by kernel_rfl), ?_⟩
    rw [upd_upd, i_Lone]
    have hnn : H nx = none := by
      cases e : H nx with
      | none => rfl
      | some o =>
        rw [bt _ _ (p12.bt _ _ e (nn ex)) (by rintro (q | q | q); exact nn ex q; exact nn g9 q; exact nn g10 q)] at hnx
        cases hnx
    have ela' : H' la = some (.lst lxs) := bt _ _ ela12 (by rintro (q | q | q); exact nla q; exact dla.2.1 q; exact dla.2.2 q)
    have ebx' : H' bx = some (.dK kv1) := bt _ _ ebx12 (by rintro (q | q | q); exact nbx q; exact dbx.1 q; exact dbx.2 q)
    have up0 : ∀ z t, τ2 z = some t → tagUp τ2 nx (5, hd.name) z = some t := fun z t e => by
      rw [tagUp_ne (by rintro rfl; rw [g3.none hnx] at e; cases e)]
      exact e
    generalize hHf : upd (upd H' nx (.lst [])) x _ = Hf
    have kf : ∀ a o, H' a = some o → a ≠ x → Hf a = some o := fun a o e n => by
      rw [← hHf, upd_ne n]
      exact s2 _ _ e
    have tkf : Tk H' Hf := fun a o e t => kf a o e (by rintro rfl; rw [ex] at e; cases e; exact t)
    have btf : Bt (fun a => a = x) H Hf := fun a o e na => by
      have na : a ≠ x := na
      refine kf _ _ (bt _ _ (p12.bt _ _ e na) ?_) na
      rintro (q | q | q)
      · exact na q
      · rw [q, hcxn] at e
        cases e
      · rw [q, hgxn] at e
        cases e
    have tkH1 : Tk H1 Hf := ((b112.tk fun a o ea e => by
      have ea : a = x := ea
      rw [ea, p1.obj] at e
      cases e
      exact ntI).trans tkx).trans tkf
    have b212 : Bt (fun a => a = x) G2 G12 := ((b3.trans (Bt.of s4)).trans b5).trans (b6.trans b612)
    have tkG2 : Tk G2 Hf := ((b212.tk fun a o ea e => by
      have ea : a = x := ea
      rw [ea] at e
      exact xG2 o e).trans tkx).trans tkf
    have b412 : Bt (fun a => a = x) G4 G12 := b5.trans (b6.trans b612)
    have tkG4 : Tk G4 Hf := ((b412.tk fun a o ea e => by
      have ea : a = x := ea
      rw [ea, p4.obj] at e
      cases e
      exact ntI).trans tkx).trans tkf
    have wf : OwnAt Hf (tagUp τ2 nx (5, hd.name)) := by
      rw [← hHf]
      exact ((g3.same s2).put ntI).up1 (o := .lst []) ((upd_ne (nn ex)).trans upd_same) ntL
    have exf : Hf x = some (.ins (C_Lone K) dx (A_Lone f1 ra (.ref la) (.int 0) (.ref bx) (.ref cx) (.ref gx) (.ref nx) (.int 0))) := by rw [← hHf, upd_same]
    refine k1 Hf (tagUp τ2 nx (5, hd.name)) lf (fun a t e => up0 _ _ (g1 a t e)) (fun a t e => ?_) wf btf ⟨up0 _ _ g4, dx, f1, ra, la, bx, cx, gx, nx, kv1, [], ck, gk, lxs, exf, j1.mono tkH1, i3.mono tkG2, up0 _ _ g5, kf _ _ ela' nla, ila.mono tkG4, up0 _ _ g6, kf _ _ ebx' nbx, ikv.mono tkH1,
      tagUp_same, (by rw [← hHf, upd_ne (nn ex), upd_same]), .nil, up0 _ _ g7, kf _ _ g9 ncx, up0 _ _ g8, kf _ _ g10 ngx, (by rw [lc] at g12; show gk.length ≤ 20 + 0; omega), fun ch hc hd' => (g13 ch hc hd').1, fun ch hc => by cases hc⟩ (fun ch hc hd' => ?_)
    · by_cases q : a = nx
      · rw [q]
        exact .inr (.inr hnn)
      · rw [tagUp_ne q] at e
        exact g2 a t e
    · obtain ⟨z1, z2, z3⟩ := g13 ch hc hd'
      refine ⟨up0 _ _ z2, kf _ _ z3 ?_⟩
      intro z
      rw [z, g4] at z2
      cases z2
end
end SwK
set_option maxHeartbeats 8000000
/-! the plain house -/
namespace SwK
open PySem PySem.Spec PyProof.Rows L2
section
variable (K : PySem.W.Frag)
structure PlainAt (H : Hp) (τ : Tags) (ln : Str → Addr) (pp : Addr) (m : Mk0) (st : MSt) : Prop where
  own : OwnAt H τ
  obj : ∃ dx mv hp lp hk lk, H pp = some (.ins (C_Plain K) dx (A_Plain mv (.ref hp) (.ref lp))) ∧ Im H mv (Mk0.d m) ∧ τ pp = some (tgI 0) ∧ τ hp = some (tgI 1) ∧ τ lp = some (tgI 2) ∧ H hp = some (.dK hk) ∧
    (∀ hd ∈ m.hands, ∃ a, valV hk (Sum.inr hd.name) = some (.ref a) ∧ LoneAt K H τ ln m m.chans hd a (st.hand hd.name)) ∧ H lp = some (.dK lk) ∧ (∀ ch ∈ m.chans, valV lk (Sum.inr ch.name) = some (.ref (ln ch.name))) ∧ LinesAt H τ ln m st.row
end
section
variable {K : PySem.W.Frag} {H H' : Hp} {τ τ' : Tags} {ln : Str → Addr} {m : Mk0}
theorem LoneAt.tags {D : List Ch} {hd : Hn} {a : Addr} {s : HSt} (u : ∀ a t, τ a = some t → τ' a = some t) (x : LoneAt K H τ ln m D hd a s) : LoneAt K H τ' ln m D hd a s := by
  obtain ⟨t, dx, ka, ra, la, bx, cx, gx, nx, kvs, ns, ck, gk, lxs, e1, e2, e3, e4, e5, e6, e7, e8, e9, e10, e11, e12, e13, e14, e15, e16, e17, e18, e19⟩ := x
  exact ⟨u _ _ t, dx, ka, ra, la, bx, cx, gx, nx, kvs, ns, ck, gk, lxs, e1, e2, e3, u _ _ e4, e5, e6, u _ _ e7, e8, e9, u _ _ e10, e11, e12, u _ _ e13, e14, u _ _ e15, e16, e17, e18, e19⟩
theorem LoneAt.reln {ln' : Str → Addr} {hd : Hn} {a : Addr} {s : HSt} (u : ∀ ch ∈ m.chans, ch.dst = hd.name → ln ch.name = ln' ch.name) (x : LoneAt K H τ ln m [] hd a s) : LoneAt K H τ ln' m [] hd a s := by
  obtain ⟨t, dx, ka, ra, la, bx, cx, gx, nx, kvs, ns, ck, gk, lxs, e1, e2, e3, e4, e5, e6, e7, e8, e9, e10, e11, e12, e13, e14, e15, e16, e17, e18, e19⟩ := x
  exact ⟨t, dx, ka, ra, la, bx, cx, gx, nx, kvs, ns, ck, gk, lxs, e1, e2, e3, e4, e5, e6, e7, e8, e9, e10, e11, e12, e13, e14, e15, e16, e17, fun ch hc hd' => by rw [e18 ch hc hd', u ch hc hd'], fun ch hc => by cases hc⟩
theorem PlainAt.same {pp : Addr} {st : MSt} (q : Same H H') (x : PlainAt K H τ ln pp m st) : PlainAt K H' τ ln pp m st := by
  obtain ⟨w, dx, mv, hp, lp, hk, lk, e1, e2, e3, e4, e5, e6, e7, e8, e9, e10⟩ := x
  exact ⟨w.same q, dx, mv, hp, lp, hk, lk, q _ _ e1, e2.mono (Tk.of q), e3, e4, e5, q _ _ e6, fun hd hm => by obtain ⟨a, h1, h2⟩ := e7 hd hm; exact ⟨a, h1, h2.same q⟩, q _ _ e8, e9, e10.same q⟩
theorem PlainAt.other {pp : Addr} {st : MSt} {F : Addr → Prop} (s : Bt F H H') (d : ∀ a, F a → τ a = none) (k : Tk H H') (x : PlainAt K H τ ln pp m st) : PlainAt K H' τ ln pp m st := by
  obtain ⟨w, dx, mv, hp, lp, hk, lk, e1, e2, e3, e4, e5, e6, e7, e8, e9, e10⟩ := x
  have g : ∀ {a o t}, H a = some o → τ a = some t → H' a = some o := fun {a o t} e ht => s a o e fun f => by rw [d a f] at ht; cases ht
  refine ⟨fun a t e => ?_, dx, mv, hp, lp, hk, lk, g e1 e3, e2.mono k, e3, e4, e5, g e6 e4, fun hd hm => ?_, g e8 e5, e9, fun ch hc => ?_⟩
  · obtain ⟨o, q, n⟩ := w a t e
    exact ⟨o, g q e, n⟩
  · obtain ⟨a, h1, t, dx', ka, ra, la, bx, cx, gx, nx, kvs, ns, ck, gk, lxs, f1, f2, f3, f4, f5, f6, f7, f8, f9, f10, f11, f12, f13, f14, f15, f16, f17, f18, f19⟩ := e7 hd hm
    exact ⟨a, h1, t, dx', ka, ra, la, bx, cx, gx, nx, kvs, ns, ck, gk, lxs, g f1 t, f2.mono k, f3.mono k, f4, g f5 f4, f6.mono k, f7, g f8 f7, f9.mono k, f10, g f11 f10, f12.mono k, f13, g f14 f13, f15, g f16 f15, f17, f18, f19⟩
  · obtain ⟨q1, xs, q2, q3⟩ := e10 ch hc
    exact ⟨q1, xs, g q2 q1, q3.mono k⟩
end
section
variable (K : PySem.W.Frag)
def LnRead (H : Hp) (ad : Addr) (s : HSt) : Prop := ∃ dx ka ra la bx cx gx nx kvs ns, H ad = some (.ins (C_Lone K) dx (A_Lone ka ra la (.int (s.line : Nat)) (.ref bx) cx gx (.ref nx) (.int (s.done : Nat)))) ∧ H bx = some (.dK kvs) ∧ KvI H kvs s.env ∧ H nx = some (.lst ns) ∧ ImL H ns s.notes
def spLStand : Sp := sp1 fun a H Q => ∃ ad s, a = .ref ad ∧ LnRead K H ad s ∧ ∀ H' r q kvs, Same H H' → H r = none → H' r = some (.tup [.int (s.line : Nat), .ref q]) → H' q = some (.dK kvs) → KvI H' kvs s.env → Q (.ref r) H'
def spLTold : Sp := sp1 fun a H Q => ∃ ad s, a = .ref ad ∧ LnRead K H ad s ∧ ∀ H' q xs, Same H H' → H q = none → H' q = some (.lst xs) → ImL H' xs s.notes → Q (.ref q) H'
def spLCount : Sp := sp1 fun a H Q => ∃ ad s, a = .ref ad ∧ LnRead K H ad s ∧ Q (.int (s.done : Nat)) H
def spPStand : Sp := sp2 fun a b H Q => ∃ τ ln m pp st hd, a = .ref pp ∧ b = .str hd.name ∧ hd ∈ m.hands ∧ PlainAt K H τ ln pp m st ∧
  ∀ H' r q kvs, Same H H' → H r = none → H' r = some (.tup [.int ((st.hand hd.name).line : Nat), .ref q]) → H' q = some (.dK kvs) → KvI H' kvs (st.hand hd.name).env → Q (.ref r) H'
def spPTold : Sp := sp2 fun a b H Q => ∃ τ ln m pp st hd, a = .ref pp ∧ b = .str hd.name ∧ hd ∈ m.hands ∧ PlainAt K H τ ln pp m st ∧
  ∀ H' q xs, Same H H' → H q = none → H' q = some (.lst xs) → ImL H' xs (st.hand hd.name).notes → Q (.ref q) H'
def spPCount : Sp := sp2 fun a b H Q => ∃ τ ln m pp st hd, a = .ref pp ∧ b = .str hd.name ∧ hd ∈ m.hands ∧ PlainAt K H τ ln pp m st ∧ Q (.int ((st.hand hd.name).done : Nat)) H
def spPLetters : Sp := sp2 fun a b H Q => ∃ τ ln m pp st ch, a = .ref pp ∧ b = .str ch.name ∧ ch ∈ m.chans ∧ PlainAt K H τ ln pp m st ∧
  ∀ H' q xs, Same H H' → H q = none → H' q = some (.lst xs) → ImL H' xs (st.row ch.name) → Q (.ref q) H'
def spPStep : Sp := sp2 fun a b H Q => ∃ τ ln m pp st hd row res st', a = .ref pp ∧ b = .str hd.name ∧ MkOk m ∧ hd ∈ m.hands ∧ PlainAt K H τ ln pp m st ∧ WT m st ∧ Sz m 1000 st ∧ hd.rows[(st.hand hd.name).line]? = some row ∧ AStep m st hd.name row res st' ∧
  ∀ H', Bt (fun a => τ a ≠ none) H H' → PlainAt K H' τ ln pp m st' → Q (.bl res) H'
def spShare : Sp := sp1 fun a H Q => ∃ τ ln m st x dx mv hp hk, a = .ref x ∧ MkOk m ∧ H x = some (.ins (C_Plain K) dx (putF "hands" (.ref hp) (putF "make" mv []))) ∧ Im H mv (Mk0.d m) ∧ OwnAt H τ ∧ τ x = some (tgI 0) ∧ τ hp = some (tgI 1) ∧ H hp = some (.dK hk) ∧
  (∀ hd ∈ m.hands, ∃ a, valV hk (Sum.inr hd.name) = some (.ref a) ∧ LoneAt K H τ ln m [] hd a (st.hand hd.name)) ∧ LinesAt H τ ln m st.row ∧
  ∀ H' τ', (∀ a t, τ a = some t → τ' a = some t) → (∀ a t, τ' a = some t → τ a = some t ∨ H a = none) → Bt (fun a => τ a ≠ none) H H' → PlainAt K H' τ' ln x m st → Q .non H'
def spPlain : Sp := sp2 fun a b H Q => ∃ m x dx, MkOk m ∧ a = .ref x ∧ H x = some (.ins (C_Plain K) dx []) ∧ Im H b (Mk0.d m) ∧
  ∀ H' τ ln, (∀ a t, τ a = some t → a = x ∨ H a = none) → Bt (fun a => a = x) H H' → PlainAt K H' τ ln x m (st0 m) → Q .non H'
end
theorem LoneAt.read {K : PySem.W.Frag} {H : Hp} {τ : Tags} {ln : Str → Addr} {m : Mk0} {D : List Ch} {hd : Hn} {a : Addr} {s : HSt} (x : LoneAt K H τ ln m D hd a s) : LnRead K H a s := by
  obtain ⟨t, dx, ka, ra, la, bx, cx, gx, nx, kvs, ns, ck, gk, lxs, e1, e2, e3, e4, e5, e6, e7, e8, e9, e10, e11, e12, e13, e14, e15, e16, e17, e18, e19⟩ := x
  exact ⟨dx, ka, ra, _, bx, _, _, nx, kvs, ns, e1, e8, e9, e11, e12⟩
/-- a step touches only its own hand, and the rows -/
theorem astep_hand {m : Mk0} {st st' : MSt} {h : Str} {row : Rw} {b : Bool} (s : AStep m st h row b st') {g : Str} (n : g ≠ h) : st'.hand g = st.hand g := by
  cases s with
  | fin => rfl
  | wait _ => rfl
  | take _ => exact MSt.at_ne n
  | send _ => exact MSt.at_ne n
  | set _ => exact MSt.at_ne n
  | tell _ => exact MSt.at_ne n
  | go => exact MSt.at_ne n
  | ite _ => exact MSt.at_ne n
section
variable {P : Program} {w : World} {K : PySem.W.Frag} {mg : Str → Option Value} {base : Heap}
/- Lone.stand: slots 0 self -/
theorem sc_Lone_stand : FnScope ["self"] ["self"] (defScope s_Lone_stand) := ⟨rfl, rfl, rfl, by decide +kernel, rfl, by decide +kernel, by decide +kernel⟩
theorem ok_Lone_stand (T : Txt K mg) : C8.Met P w K mg base 1 (C_Lone K) "stand" (spLStand K) [] := by
  refine mkMet (f_Lone_stand T) (cl_Lone T) (me_Lone_stand T) sc_Lone_stand (fun _ _ _ _ _ _ us hl => match us, hl with | [_], _ => rfl) (fun vs H Q E h => ?_) (fun vs H Q E h => ?_)
  · obtain ⟨a, rfl, _⟩ := sp1_len h
    rfl
  obtain ⟨a, rfl, h⟩ := sp1_len h
  intro cdv A outer s E hr
  have hu := hu_of hr
  obtain ⟨ad, s0, rfl, ⟨dx, ka, ra, la, bx, cx, gx, nx, kvs, ns, e1, e2, e3, e4, e5⟩, k1⟩ := h
  have cL := cl_Lone T
  refine ⟨_, (pss_one (ps_ret (pe_tup (pa_cons (pe_fld (pv 0) rfl) (pa_cons (pe_callTy call_dictD rfl (z_dict T) (by decide +kernel) (pa_cons (pe_fld (pv 0) rfl) pa_nil)) pa_nil))))), ?_⟩
  refine ⟨_, rfl, ad, _, dx, _, _, rfl, e1, cL, na_Lone_at T, l_Lone_at, _, rfl, ad, _, dx, _, _, rfl, e1, cL, na_Lone_held T, l_Lone_held, bx, kvs, rfl, rd_of e2, fun q hq => ⟨le_size (by show 2 ≤ 100000; decide), fun r hr => ?_⟩⟩
  have s1 : Same H (upd H q (.dK kvs)) := same_new hq
  have s2 : Same (upd H q (.dK kvs)) (upd (upd H q (.dK kvs)) r (.tup [.int (s0.line : Nat), .ref q])) := same_new hr
  exact k1 _ r q kvs (s1.trans s2) (new_old s1 hr) upd_same (s2 _ _ upd_same) (e3.mono (Tk.of (s1.trans s2)))
/- Lone.told: slots 0 self -/
theorem sc_Lone_told : FnScope ["self"] ["self"] (defScope s_Lone_told) := ⟨rfl, rfl, rfl, by decide +kernel, rfl, by decide +kernel, by decide +kernel⟩
theorem ok_Lone_told (T : Txt K mg) : C8.Met P w K mg base 1 (C_Lone K) "told" (spLTold K) [] := by
  refine mkMet (f_Lone_told T) (cl_Lone T) (me_Lone_told T) sc_Lone_told (fun _ _ _ _ _ _ us hl => match us, hl with | [_], _ => rfl) (fun vs H Q E h => ?_) (fun vs H Q E h => ?_)
  · obtain ⟨a, rfl, _⟩ := sp1_len h
    rfl
  obtain ⟨a, rfl, h⟩ := sp1_len h
  intro cdv A outer s E hr
  have hu := hu_of hr
  obtain ⟨ad, s0, rfl, ⟨dx, ka, ra, la, bx, cx, gx, nx, kvs, ns, e1, e2, e3, e4, e5⟩, k1⟩ := h
  refine ⟨_, (pss_one (ps_ret (pe_callTy call_list_of rfl (z_list T) (by decide +kernel) (pa_cons (pe_fld (pv 0) rfl) pa_nil)))), ?_⟩
  refine ⟨_, rfl, ad, _, dx, _, _, rfl, e1, cl_Lone T, na_Lone_notes T, l_Lone_notes, nx, ns, rfl, .inl (SqL.of e4), fun q hq => ?_⟩
  exact k1 _ q ns (same_new hq) hq upd_same (e5.mono (Tk.of (same_new hq)))
/- Lone.count: slots 0 self -/
theorem sc_Lone_count : FnScope ["self"] ["self"] (defScope s_Lone_count) := ⟨rfl, rfl, rfl, by decide +kernel, rfl, by decide +kernel, by decide +kernel⟩
theorem ok_Lone_count (T : Txt K mg) : C8.Met P w K mg base 1 (C_Lone K) "count" (spLCount K) [] := by
  refine mkMet (f_Lone_count T) (cl_Lone T) (me_Lone_count T) sc_Lone_count (fun _ _ _ _ _ _ us hl => match us, hl with | [_], _ => rfl) (fun vs H Q E h => ?_) (fun vs H Q E h => ?_)
  · obtain ⟨a, rfl, _⟩ := sp1_len h
    rfl
  obtain ⟨a, rfl, h⟩ := sp1_len h
  intro cdv A outer s E hr
  have hu := hu_of hr
  obtain ⟨ad, s0, rfl, ⟨dx, ka, ra, la, bx, cx, gx, nx, kvs, ns, e1, e2, e3, e4, e5⟩, k1⟩ := h
  refine ⟨_, (pss_one (ps_ret (pe_fld (pv 0) rfl))), ?_⟩
  exact ⟨_, rfl, ad, _, dx, _, _, rfl, e1, cl_Lone T, na_Lone_done T, l_Lone_done, k1⟩
/- Plain.stand: slots 0 self 1 h -/
theorem sc_Plain_stand : FnScope ["self", "h"] ["self", "h"] (defScope s_Plain_stand) := ⟨rfl, rfl, rfl, by decide +kernel, rfl, by decide +kernel, by decide +kernel⟩
theorem ok_Plain_stand (T : Txt K mg) (c_Lone_stand : C8.Met P w K mg base 1 (C_Lone K) "stand" (spLStand K) []) : C8.Met P w K mg base 2 (C_Plain K) "stand" (spPStand K) [] := by
  refine mkMet (f_Plain_stand T) (cl_Plain T) (me_Plain_stand T) sc_Plain_stand (fun _ _ _ _ _ _ us hl => match us, hl with | [_, _], _ => rfl) (fun vs H Q E h => ?_) (fun vs H Q E h => ?_)
  · obtain ⟨a, b, rfl, _⟩ := sp2_len h
    rfl
  obtain ⟨a, b, rfl, h⟩ := sp2_len h
  intro cdv A outer s E hr
  have hu := hu_of hr
  obtain ⟨τ, ln, m, pp, st, hd, rfl, rfl, hhd, ⟨w0, dx, mv, hp, lp, hk, lk, e1, e2, e3, e4, e5, e6, e7, e8, e9, e10⟩, k1⟩ := h
  obtain ⟨ad, hval, hL⟩ := e7 hd hhd
  have hR := hL.read
  obtain ⟨dl, ka, ra, la, bx, cx, gx, nx, kvs, ns, f1, _⟩ := id hR
  refine ⟨_, (pss_one (ps_ret (C8.pe_mt0 c_Lone_stand hr (by omega) (pe_dget hu (pe_fld (pv 0) rfl) (pv 1) (fun _ _ => rfl))))), ?_⟩
  exact ⟨_, rfl, pp, _, dx, _, _, rfl, e1, cl_Plain T, na_Plain_hands T, l_Plain_hands, _, rfl, hp, .ref ad, rfl, hval ▸ dget_s (rd_of e6), ad, dl, _, rfl, f1, n_Lone_stand, ad, _, rfl, hR, k1⟩
/- Plain.told: slots 0 self 1 h -/
theorem sc_Plain_told : FnScope ["self", "h"] ["self", "h"] (defScope s_Plain_told) := ⟨rfl, rfl, rfl, by decide +kernel, rfl, by decide +kernel, by decide +kernel⟩
theorem ok_Plain_told (T : Txt K mg) (c_Lone_told : C8.Met P w K mg base 1 (C_Lone K) "told" (spLTold K) []) : C8.Met P w K mg base 2 (C_Plain K) "told" (spPTold K) [] := by
  refine mkMet (f_Plain_told T) (cl_Plain T) (me_Plain_told T) sc_Plain_told (fun _ _ _ _ _ _ us hl => match us, hl with | [_, _], _ => rfl) (fun vs H Q E h => ?_) (fun vs H Q E h => ?_)
  · obtain ⟨a, b, rfl, _⟩ := sp2_len h
    rfl
  obtain ⟨a, b, rfl, h⟩ := sp2_len h
  intro cdv A outer s E hr
  have hu := hu_of hr
  obtain ⟨τ, ln, m, pp, st, hd, rfl, rfl, hhd, ⟨w0, dx, mv, hp, lp, hk, lk, e1, e2, e3, e4, e5, e6, e7, e8, e9, e10⟩, k1⟩ := h
  obtain ⟨ad, hval, hL⟩ := e7 hd hhd
  have hR := hL.read
  obtain ⟨dl, ka, ra, la, bx, cx, gx, nx, kvs, ns, f1, _⟩ := id hR
  refine ⟨_, (pss_one (ps_ret (C8.pe_mt0 c_Lone_told hr (by omega) (pe_dget hu (pe_fld (pv 0) rfl) (pv 1) (fun _ _ => rfl))))), ?_⟩
  exact ⟨_, rfl, pp, _, dx, _, _, rfl, e1, cl_Plain T, na_Plain_hands T, l_Plain_hands, _, rfl, hp, .ref ad, rfl, hval ▸ dget_s (rd_of e6), ad, dl, _, rfl, f1, n_Lone_told, ad, _, rfl, hR, k1⟩
/- Plain.count: slots 0 self 1 h -/
theorem sc_Plain_count : FnScope ["self", "h"] ["self", "h"] (defScope s_Plain_count) := ⟨rfl, rfl, rfl, by decide +kernel, rfl, by decide +kernel, by decide +kernel⟩
theorem ok_Plain_count (T : Txt K mg) (c_Lone_count : C8.Met P w K mg base 1 (C_Lone K) "count" (spLCount K) []) : C8.Met P w K mg base 2 (C_Plain K) "count" (spPCount K) [] := by
  refine mkMet (f_Plain_count T) (cl_Plain T) (me_Plain_count T) sc_Plain_count (fun _ _ _ _ _ _ us hl => match us, hl with | [_, _], _ => rfl) (fun vs H Q E h => ?_) (fun vs H Q E h => ?_)
  · obtain ⟨a, b, rfl, _⟩ := sp2_len h
    rfl
  obtain ⟨a, b, rfl, h⟩ := sp2_len h
  intro cdv A outer s E hr
  have hu := hu_of hr
  obtain ⟨τ, ln, m, pp, st, hd, rfl, rfl, hhd, ⟨w0, dx, mv, hp, lp, hk, lk, e1, e2, e3, e4, e5, e6, e7, e8, e9, e10⟩, k1⟩ := h
  obtain ⟨ad, hval, hL⟩ := e7 hd hhd
  have hR := hL.read
  obtain ⟨dl, ka, ra, la, bx, cx, gx, nx, kvs, ns, f1, _⟩ := id hR
  refine ⟨_, (pss_one (ps_ret (C8.pe_mt0 c_Lone_count hr (by omega) (pe_dget hu (pe_fld (pv 0) rfl) (pv 1) (fun _ _ => rfl))))), ?_⟩
  exact ⟨_, rfl, pp, _, dx, _, _, rfl, e1, cl_Plain T, na_Plain_hands T, l_Plain_hands, _, rfl, hp, .ref ad, rfl, hval ▸ dget_s (rd_of e6), ad, dl, _, rfl, f1, n_Lone_count, ad, _, rfl, hR, k1⟩
/- Plain.letters: slots 0 self 1 c -/
theorem sc_Plain_letters : FnScope ["self", "c"] ["self", "c"] (defScope s_Plain_letters) := ⟨rfl, rfl, rfl, by decide +kernel, rfl, by decide +kernel, by decide +kernel⟩
theorem ok_Plain_letters (T : Txt K mg) : C8.Met P w K mg base 1 (C_Plain K) "letters" (spPLetters K) [] := by
  refine mkMet (f_Plain_letters T) (cl_Plain T) (me_Plain_letters T) sc_Plain_letters (fun _ _ _ _ _ _ us hl => match us, hl with | [_, _], _ => rfl) (fun vs H Q E h => ?_) (fun vs H Q E h => ?_)
  · obtain ⟨a, b, rfl, _⟩ := sp2_len h
    rfl
  obtain ⟨a, b, rfl, h⟩ := sp2_len h
  intro cdv A outer s E hr
  have hu := hu_of hr
  obtain ⟨τ, ln, m, pp, st, ch, rfl, rfl, hch, ⟨w0, dx, mv, hp, lp, hk, lk, e1, e2, e3, e4, e5, e6, e7, e8, e9, e10⟩, k1⟩ := h
  obtain ⟨v1, xs, v2, v3⟩ := e10 ch hch
  refine ⟨_, (pss_one (ps_ret (pe_callTy call_list_of rfl (z_list T) (by decide +kernel) (pa_cons (pe_dget hu (pe_fld (pv 0) rfl) (pv 1) (fun _ _ => rfl)) pa_nil)))), ?_⟩
  refine ⟨_, rfl, pp, _, dx, _, _, rfl, e1, cl_Plain T, na_Plain_lines T, l_Plain_lines, _, rfl, lp, .ref (ln ch.name), rfl, e9 ch hch ▸ dget_s (rd_of e8), _, xs, rfl, .inl (SqL.of v2), fun q hq => ?_⟩
  exact k1 _ q xs (same_new hq) hq upd_same (v3.mono (Tk.of (same_new hq)))
/- Plain.step: slots 0 self 1 h -/
theorem sc_Plain_step : FnScope ["self", "h"] ["self", "h"] (defScope s_Plain_step) := ⟨rfl, rfl, rfl, by decide +kernel, rfl, by decide +kernel, by decide +kernel⟩
theorem ok_Plain_step (T : Txt K mg) (c_Lone_step : C8.Met P w K mg base 22 (C_Lone K) "step" (spLStep K) []) : C8.Met P w K mg base 23 (C_Plain K) "step" (spPStep K) [] := by
  refine mkMet (f_Plain_step T) (cl_Plain T) (me_Plain_step T) sc_Plain_step (fun _ _ _ _ _ _ us hl => match us, hl with | [_, _], _ => rfl) (fun vs H Q E h => ?_) (fun vs H Q E h => ?_)
  · obtain ⟨a, b, rfl, _⟩ := sp2_len h
    rfl
  obtain ⟨a, b, rfl, h⟩ := sp2_len h
  intro cdv A outer s E hr
  have hu := hu_of hr
  obtain ⟨τ, ln, m, pp, st, hd, row, res, st', rfl, rfl, ok, hhd, hP, wt, sz, hrow, hstep, k1⟩ := h
  obtain ⟨w0, dx, mv, hp, lp, hk, lk, e1, e2, e3, e4, e5, e6, e7, e8, e9, e10⟩ := hP
  obtain ⟨ad, hval, hL⟩ := e7 hd hhd
  obtain ⟨dl, ka, ra, la, bx, cx, gx, nx, kvs, ns, f1, _⟩ := id hL.read
  refine ⟨_, (pss_one (ps_ret (C8.pe_mt0 c_Lone_step hr (by omega) (pe_dget hu (pe_fld (pv 0) rfl) (pv 1) (fun _ _ => rfl))))), ?_⟩
  refine ⟨_, rfl, pp, _, dx, _, _, rfl, e1, cl_Plain T, na_Plain_hands T, l_Plain_hands, _, rfl, hp, .ref ad, rfl, hval ▸ dget_s (rd_of e6), ad, dl, _, rfl, f1, n_Lone_step, τ, ln, m, hd, st, row, res, st', ad, rfl, ok, hhd, w0, hL, e10, wt, sz, hrow, hstep, fun H' w1 b hL' hN' => ?_⟩
  have tk := b.tk w0
  have no : ∀ i, i < 3 → ¬ TL hd.name (tgI i) := fun i hi z => by
    rcases z with ⟨z, _, _⟩ | z
    · have z : 3 ≤ i := z
      omega
    · have z : i = 6 := z
      omega
  refine k1 H' b.bt ⟨w1, dx, mv, hp, lp, hk, lk, b.get e1 e3 (no 0 (by decide)), e2.mono tk, e3, e4, e5, b.get e6 e4 (no 1 (by decide)), fun hd' hm => ?_, b.get e8 e5 (no 2 (by decide)), e9, hN'⟩
  by_cases e : hd'.name = hd.name
  · have := name_inj ok.hn hm hhd e
    subst this
    exact ⟨ad, hval, hL'⟩
  · obtain ⟨a, h1, h2⟩ := e7 hd' hm
    rw [astep_hand hstep e]
    refine ⟨a, h1, h2.keep b tk fun i h3 h6 z => ?_⟩
    rcases z with ⟨_, _, z⟩ | z
    · exact e z
    · exact h6 z
end
end SwK
set_option maxHeartbeats 8000000
/-! the plain house: made -/
namespace SwK
open PySem PySem.Spec PyProof.Rows L2
section
variable {P : Program} {w : World} {K : PySem.W.Frag} {mg : Str → Option Value} {base : Heap}
/- Plain.share: slots 0 self 1 c 2 come 3 to 4 kind 5 line -/
theorem sc_Plain_share : FnScope ["self", "c", "come", "to", "kind", "line"] ["self"] (defScope s_Plain_share) := ⟨rfl, rfl, rfl, by decide +kernel, rfl, by decide +kernel, by decide +kernel⟩
theorem ok_Plain_share (T : Txt K mg) : C8.Met P w K mg base 1 (C_Plain K) "share" (spShare K) [] := by
  refine mkMet (f_Plain_share T) (cl_Plain T) (me_Plain_share T) sc_Plain_share (fun _ _ _ _ _ _ us hl => match us, hl with | [_], _ => rfl) (fun vs H Q E h => ?_) (fun vs H Q E h => ?_)
  · obtain ⟨a, rfl, _⟩ := sp1_len h
    rfl
  obtain ⟨a, rfl, h⟩ := sp1_len h
  intro cdv A outer s E hr
  have hu := hu_of hr
  obtain ⟨τ, ln, m, st, x, dx, mv, hp, hk, rfl, ok, hx, hm, w0, tx, thp, ehp, hands, lines, k1⟩ := h
  have cP := cl_Plain T
  have cL := cl_Lone T
  obtain ⟨fa, f1, f2, f3, rfl, ef, j1, j2, j3⟩ := im3 hm
  obtain ⟨ca, cxs, rfl, ec, ic⟩ := im_tup j2
  have lc : cxs.length = m.chans.length := by rw [ic.length, List.length_map]
  refine ⟨_, (pss_cons (ps_fld (pv 0) pe_dnewK rfl)
        (pss_one (ps_for PassesOwn.never rfl (pi_tup (pe_ix ix_tup (pe_fld (pv 0) rfl) pe_int (fun _ _ => rfl))) (pg_tup rfl (pgs_cons (pg_name (i := 1) sc_Plain_share.nd rfl (by first | exact .inl rfl | exact .inr rfl)) (pgs_cons (pg_name (i := 2) sc_Plain_share.nd rfl (by first | exact .inl rfl | exact .inr rfl)) (pgs_cons (pg_name (i := 3) sc_Plain_share.nd rfl (by first | exact .inl rfl | exact .inr rfl)) (pgs_cons (pg_name (i := 4) sc_Plain_share.nd rfl (by first | exact .inl rfl | exact .inr rfl)) pgs_nil))))) (pss_cons (ps_set (i := 5) sc_Plain_share.nd rfl (by first | exact .inl rfl | exact .inr rfl) (pe_dget hu (pe_fld (pe_dget hu (pe_fld (pv 0) rfl) (pv 3) (fun _ _ => rfl)) rfl) (pv 1) (fun _ _ => rfl)))
        (pss_cons (ps_dput hu (pe_fld (pv 0) rfl) (pv 1) (pv 5) rfl)
        (pss_one (ps_dput hu (pe_fld (pe_dget hu (pe_fld (pv 0) rfl) (pv 2) (fun _ _ => rfl)) rfl) (pv 1) (pv 5) rfl))))))), ?_⟩
  intro lp hlp
  have s1 : Same H (upd H lp (.dK [])) := same_new hlp
  have nlx : x ≠ lp := by rintro rfl; rw [hx] at hlp; cases hlp
  refine ⟨_, rfl, x, _, dx, _, rfl, s1 _ _ hx, cP, na_Plain_lines T, lt1000 (by kernel_rfl), ?_⟩
  rw [i_Plain]
  generalize hG : upd (upd H lp (.dK [])) x _ = G
  have elp : G lp = some (.dK []) := by rw [← hG, upd_ne (Ne.symm nlx), upd_same]
  have ex : G x = some (.ins (C_Plain K) dx (A_Plain (.ref fa) (.ref hp) (.ref lp))) := by rw [← hG, upd_same]
  have b0 : BtT τ (fun t => t = tgI 0) H G := by
    rw [← hG]
    exact (BtT.of s1).trans (BtT.put tx rfl)
  have tk0 := b0.tk w0
  have up0 : ∀ z t, τ z = some t → tagUp τ lp (tgI 2) z = some t := fun z t e => by
    rw [tagUp_ne (by rintro rfl; rw [w0.none hlp] at e; cases e)]
    exact e
  have wG : OwnAt G (tagUp τ lp (tgI 2)) := by
    have : OwnAt G τ := by
      rw [← hG]
      exact (w0.same s1).put ntI
    exact this.up1 elp ntK
  refine ⟨_, rfl, x, _, dx, _, _, rfl, ex, cP, na_Plain_make T, l_Plain_make, fa, _, _, _, rfl, rfl, SqT.of (tk0 _ _ ef trivial), at1, ca, rfl, ⟨_, SqT.of (tk0 _ _ ec trivial)⟩, for_tup (xs := cxs)
    (fun i σ H' => (∃ lk, H' lp = some (.dK lk) ∧ lk.length ≤ i ∧ ∀ ch ∈ m.chans.take i, valV lk (Sum.inr ch.name) = some (.ref (ln ch.name))) ∧ OwnAt H' (tagUp τ lp (tgI 2)) ∧ Tk H H' ∧ Bt (fun a => τ a ≠ none) H H' ∧ H' x = some (.ins (C_Plain K) dx (A_Plain (.ref fa) (.ref hp) (.ref lp))) ∧ H' hp = some (.dK hk) ∧
      (∀ hd ∈ m.hands, ∃ a, valV hk (Sum.inr hd.name) = some (.ref a) ∧ LoneAt K H' (tagUp τ lp (tgI 2)) ln m (m.chans.take i) hd a (st.hand hd.name)) ∧ LinesAt H' (tagUp τ lp (tgI 2)) ln m st.row ∧ ∃ o1 o2 o3 o4 o5, σ = [some (.ref x), o1, o2, o3, o4, o5])
    ⟨⟨[], elp, Nat.zero_le _, fun ch hc => by cases hc⟩, wG, tk0, b0.bt, ex, b0.get ehp thp (fun z => by cases z), fun hd hm => ?_, fun ch hc => ?_, _, _, _, _, _, rfl⟩ (fun i σ H' _ z => SqT.of (z.2.2.1 _ _ ec trivial)) ?_ ?_⟩
  · obtain ⟨a, h1, h2⟩ := hands hd hm
    exact ⟨a, h1, (h2.keep b0 tk0 (fun i h3 _ z => by injection z with z _; omega)).tags up0⟩
  · obtain ⟨q1, xs, q2, q3⟩ := lines ch hc
    exact ⟨up0 _ _ q1, xs, b0.get q2 q1 (fun z => by injection z with z _; omega), q3.mono tk0⟩
  · rintro i y σ H' hy ⟨⟨lk, e1, e2, e3⟩, w1, tk1, b1, ex1, ehp1, hands1, lines1, o1, o2, o3, o4, o5, rfl⟩
    obtain ⟨ch, hcc, iy⟩ := iml_map ic hy
    have hcm := List.mem_of_getElem? hcc
    obtain ⟨ya, y1, y2, y3, y4, rfl, ey, n1, n2, n3, n4⟩ := im4 (iy.mono tk1)
    cases im_str n1
    cases im_str n2
    cases im_str n3
    cases im_str n4
    have hi10 : i < 10 := by
      have := (List.getElem?_eq_some_iff.mp hcc).1
      have := ok.cfew
      omega
    have nname : ¬ ch.name ∈ (m.chans.take i).map Ch.name := nd_take ok.cn hcc
    obtain ⟨_, hsm, hdm⟩ := ok.ch ch hcm
    obtain ⟨hs, hsm, ehs⟩ := List.mem_map.mp hsm
    obtain ⟨hd, hdm, ehd⟩ := List.mem_map.mp hdm
    obtain ⟨ad, va, hL⟩ := hands1 hd hdm
    obtain ⟨as, vs, hS⟩ := hands1 hs hsm
    obtain ⟨t, dl, ka, ra, la, bx, cx, gx, nx, kvs, ns, ck, gk, lxs, g1, g2, g3, g4, g5, g6, g7, g8, g9, g10, g11, g12, g13, g14, g15, g16, g17, g18, g19⟩ := id hL
    obtain ⟨t', dl', ka', ra', la', bx', cx', gx', nx', kvs', ns', ck', gk', lxs', g1', g2', g3', g4', g5', g6', g7', g8', g9', g10', g11', g12', g13', g14', g15', g16', g17', g18', g19'⟩ := id hS
    have hcv := g18 ch hcm ehd.symm
    refine ⟨ya, _, rfl, SqT.of ey, rfl, _, _, rfl, _, _, rfl, _, _, rfl, _, _, rfl, rfl, ?_⟩
    refine ⟨_, rfl, x, _, dx, _, _, rfl, ex1, cP, na_Plain_hands T, l_Plain_hands, _, rfl, hp, .ref ad, rfl, (ehd ▸ va) ▸ dget_s (rd_of ehp1), ad, _, dl, _, _, rfl, g1, cL, na_Lone_coming T, l_Lone_coming, _, rfl, cx, .ref (ln ch.name), rfl, hcv ▸ dget_s (rd_of g14), ?_⟩
    refine ⟨_, rfl, _, rfl, x, _, dx, _, _, rfl, ex1, cP, na_Plain_lines T, l_Plain_lines, _, rfl, lp, _, rfl, DPut.k (k := Sum.inr ch.name) e1 (lt_size (by omega)), ?_⟩
    have tlp : tagUp τ lp (tgI 2) lp = some (tgI 2) := tagUp_same
    have b2 : BtT (tagUp τ lp (tgI 2)) (fun t => t = tgI 2) H' (upd H' lp (.dK (putK lk (Sum.inr ch.name) (.ref (ln ch.name))))) := BtT.put tlp rfl
    have tk2 := b2.tk w1
    have w2 : OwnAt (upd H' lp (.dK (putK lk (Sum.inr ch.name) (.ref (ln ch.name))))) (tagUp τ lp (tgI 2)) := w1.put ntK
    have e1' : upd H' lp (.dK (putK lk (Sum.inr ch.name) (.ref (ln ch.name)))) lp = some (.dK (putK lk (Sum.inr ch.name) (.ref (ln ch.name)))) := upd_same
    generalize upd H' lp (.dK (putK lk (Sum.inr ch.name) (.ref (ln ch.name)))) = H2 at b2 tk2 w2 e1' ⊢
    have ex2 := b2.get ex1 (up0 _ _ tx) (fun z => by cases z)
    have ehp2 := b2.get ehp1 (up0 _ _ thp) (fun z => by cases z)
    have gS := b2.get g1' t' (fun z => by injection z with z _; omega)
    have gG := b2.get g16' g15' (fun z => by injection z with z _; omega)
    have ngk : gk'.length < 1000 := by
      have : (m.chans.take i).length ≤ 10 := by rw [List.length_take]; omega
      omega
    refine ⟨_, rfl, _, rfl, x, _, dx, _, _, rfl, ex2, cP, na_Plain_hands T, l_Plain_hands, _, rfl, hp, .ref as, rfl, (ehs ▸ vs) ▸ dget_s (rd_of ehp2), as, _, dl', _, _, rfl, gS, cL, na_Lone_gone T, l_Lone_gone, _, rfl, gx', _, rfl, DPut.k (k := Sum.inr ch.name) gG (lt_size (by omega)), ?_⟩
    have b3 : BtT (tagUp τ lp (tgI 2)) (fun t => t = (9, hs.name)) H2 (upd H2 gx' (.dK (putK gk' (Sum.inr ch.name) (.ref (ln ch.name))))) := BtT.put g15' rfl
    have tk3 := b3.tk w2
    have tk23 := tk2.trans tk3
    have w3 : OwnAt (upd H2 gx' (.dK (putK gk' (Sum.inr ch.name) (.ref (ln ch.name))))) (tagUp τ lp (tgI 2)) := w2.put ntK
    have eg3 : upd H2 gx' (.dK (putK gk' (Sum.inr ch.name) (.ref (ln ch.name)))) gx' = some (.dK (putK gk' (Sum.inr ch.name) (.ref (ln ch.name)))) := upd_same
    generalize upd H2 gx' (.dK (putK gk' (Sum.inr ch.name) (.ref (ln ch.name)))) = H3 at b3 tk3 tk23 w3 eg3 ⊢
    have b23 : BtT (tagUp τ lp (tgI 2)) (fun t => t = tgI 2 ∨ t = (9, hs.name)) H' H3 := (b2.mono fun t h => .inl h).trans (b3.mono fun t h => .inr h)
    refine ⟨⟨_, b3.get e1' tlp (fun z => by cases z), Nat.le_trans (putK_len _ _ _) (by omega), fun ch' hc' => ?_⟩, w3, tk1.trans tk23, fun a o e na => ?_, b3.get ex2 (up0 _ _ tx) (fun z => by cases z), b3.get ehp2 (up0 _ _ thp) (fun z => by cases z), fun hd' hm' => ?_, lines1.keep b23 tk23 (fun c z => by rcases z with z | z <;> (injection z with z _; omega)), _, _, _, _, _, rfl⟩
    · rw [take_snoc hcc] at hc'
      rcases List.mem_append.mp hc' with h | h
      · have hne : ch'.name ≠ ch.name := fun z => nname (z ▸ List.mem_map.mpr ⟨ch', h, rfl⟩)
        rw [valV_put, if_neg (fun z => hne (Sum.inr.inj z))]
        exact e3 ch' h
      · have := List.mem_singleton.mp h
        subst this
        rw [valV_put, if_pos rfl]
    · refine b23 _ _ (b1 _ _ e na) fun u hu' hT => ?_
      have hta : τ a = none := by
        cases q : τ a with
        | none => rfl
        | some t => exact absurd (show τ a ≠ none by rw [q]; exact fun z => nomatch z) na
      by_cases q : a = lp
      · rw [q] at e
        rw [hlp] at e
        cases e
      · rw [tagUp_ne q, hta] at hu'
        cases hu'
    · obtain ⟨a', v', l'⟩ := hands1 hd' hm'
      refine ⟨a', v', ?_⟩
      by_cases ehn : hd'.name = hs.name
      · have := name_inj ok.hn hm' hsm ehn
        subst this
        rw [vs] at v'
        cases v'
        refine ⟨t', dl', ka', ra', la', bx', cx', gx', nx', kvs', ns', ck', _, lxs', b23.get g1' t' ?_, g2'.mono tk23, g3'.mono tk23, g4', b23.get g5' g4' ?_, g6'.mono tk23, g7', b23.get g8' g7' ?_, g9'.mono tk23, g10', b23.get g11' g10' ?_, g12'.mono tk23, g13', b23.get g14' g13' ?_, g15', eg3, ?_, g18', fun ch' hc' hd'' => ?_⟩
        iterate 5 (rintro (z | z) <;> (injection z with z _; omega))
        · have h1 := putK_len gk' (Sum.inr ch.name) (.ref (ln ch.name))
          rw [take_snoc hcc, List.length_append]
          show _ ≤ 20 + ((m.chans.take i).length + 1)
          omega
        · rw [take_snoc hcc] at hc'
          rcases List.mem_append.mp hc' with h | h
          · have hne : ch'.name ≠ ch.name := fun z => nname (z ▸ List.mem_map.mpr ⟨ch', h, rfl⟩)
            rw [valV_put, if_neg (fun z => hne (Sum.inr.inj z))]
            exact g19' ch' h hd''
          · have := List.mem_singleton.mp h
            subst this
            rw [valV_put, if_pos rfl]
      · have l2 := l'.keep b23 tk23 fun i h3 _ z => by
          rcases z with z | z
          · injection z with z _
            omega
          · injection z with _ z
            exact ehn z
        obtain ⟨u, dv, kv, rv, lv, bv, cv, gv, nv, kvv, nsv, ckv, gkv, lxv, q1, q2, q3, q4, q5, q6, q7, q8, q9, q10, q11, q12, q13, q14, q15, q16, q17, q18, q19⟩ := l2
        refine ⟨u, dv, kv, rv, lv, bv, cv, gv, nv, kvv, nsv, ckv, gkv, lxv, q1, q2, q3, q4, q5, q6, q7, q8, q9, q10, q11, q12, q13, q14, q15, q16, ?_, q18, fun ch' hc' hd'' => ?_⟩
        · rw [take_snoc hcc, List.length_append]
          omega
        · rw [take_snoc hcc] at hc'
          rcases List.mem_append.mp hc' with h | h
          · exact q19 ch' h hd''
          · have := List.mem_singleton.mp h
            subst this
            exact absurd (hd''.symm.trans ehs.symm) ehn
  · rintro σ H' ⟨⟨lk, e1, e2, e3⟩, w1, tk1, b1, ex1, ehp1, hands1, lines1, o1, o2, o3, o4, o5, rfl⟩
    rw [lc, List.take_length] at e3 hands1
    refine k1 H' (tagUp τ lp (tgI 2)) up0 (fun a t e => ?_) b1 ⟨w1, dx, .ref fa, hp, lp, hk, lk, ex1, hm.mono tk1, up0 _ _ tx, up0 _ _ thp, tagUp_same, ehp1, hands1, e1, e3, lines1⟩
    by_cases q : a = lp
    · rw [q]
      exact .inr hlp
    · rw [tagUp_ne q] at e
      exact .inl e
/- Plain.__init__: slots 0 self 1 make 2 h 3 boxes 4 rows -/
theorem sc_Plain_init : FnScope ["self", "make", "h", "boxes", "rows"] ["self", "make"] (defScope s_Plain_init) := ⟨rfl, rfl, rfl, by decide +kernel, rfl, by decide +kernel, by decide +kernel⟩
theorem ok_Plain (T : Txt K mg) (c_Lone : C8.Mak P w K mg base 9 "Lone" (C_Lone K) (spLone K) [.non]) (c_Plain_share : C8.Met P w K mg base 1 (C_Plain K) "share" (spShare K) []) : C8.Mak P w K mg base 11 "Plain" (C_Plain K) (spPlain K) [] := by
  refine mkMak (f_Plain_init T) (g_Plain T) (mk_Plain T) sc_Plain_init (fun _ _ _ _ _ _ us hl => match us, hl with | [_, _], _ => rfl) (fun vs H Q E h => ?_) (fun vs H Q E h => ?_)
  · obtain ⟨a, b, rfl, _⟩ := sp2_len h
    rfl
  obtain ⟨a, b, rfl, h⟩ := sp2_len h
  intro cdv A outer s E hr
  have hu := hu_of hr
  obtain ⟨m, x, dx, ok, rfl, hx, hf, k1⟩ := h
  have cl := cl_Plain T
  have hxt : ∀ o, H x = some o → ¬ TupO o := fun o e => by
    rw [hx] at e
    cases e
    exact ntI
  obtain ⟨fa, f1, f2, f3, rfl, ef, j1, j2, j3⟩ := im3 hf
  obtain ⟨ga, gxs, rfl, eg, ig⟩ := im_tup j3
  have lg : gxs.length = m.hands.length := by rw [ig.length, List.length_map]
  refine ⟨_, (pss_cons (ps_fld (pv 0) (pv 1) rfl)
        (pss_cons (ps_fld (pv 0) pe_dnewK rfl)
        (pss_cons (ps_for PassesOwn.never rfl (pi_tup (pe_ix ix_tup (pv 1) pe_int (fun _ _ => rfl))) (pg_tup rfl (pgs_cons (pg_name (i := 2) sc_Plain_init.nd rfl (by first | exact .inl rfl | exact .inr rfl)) (pgs_cons (pg_name (i := 3) sc_Plain_init.nd rfl (by first | exact .inl rfl | exact .inr rfl)) (pgs_cons (pg_name (i := 4) sc_Plain_init.nd rfl (by first | exact .inl rfl | exact .inr rfl)) pgs_nil)))) (pss_one (ps_dput hu (pe_fld (pv 0) rfl) (pv 2) (C8.pe_mk c_Lone hr (by omega) rfl (pa_cons (pv 1) (pa_cons (pv 2) (pa_cons pe_dnewK pa_nil)))) rfl)))
        (pss_one (ps_expr (C8.pe_mt0 c_Plain_share hr (by omega) (pv 0))))))), ?_⟩
  refine ⟨_, rfl, _, rfl, x, _, dx, _, rfl, hx, cl, na_Plain_make T, (by show (0 : Nat) < 1000; decide), ?_⟩
  have p1 : Pre H (upd H x (.ins (C_Plain K) dx (putF "make" (.ref fa) []))) x (C_Plain K) dx (putF "make" (.ref fa) []) := ⟨Bt.put rfl, upd_same⟩
  generalize upd H x (.ins (C_Plain K) dx (putF "make" (.ref fa) [])) = G1 at p1 ⊢
  intro hp hhp
  have s1 : Same G1 (upd G1 hp (.dK [])) := same_new hhp
  have nhp := p1.ne hhp
  have hpn := p1.new hhp
  have p2 := p1.same s1
  refine ⟨_, rfl, x, _, dx, _, rfl, p2.obj, cl, na_Plain_hands T, lt1000 (by kernel_rfl), ?_⟩
  generalize hG3 : upd (upd G1 hp (.dK [])) x _ = G3
  have p3 : Pre H G3 x (C_Plain K) dx (putF "hands" (.ref hp) (putF "make" (.ref fa) [])) := by rw [← hG3]; exact p2.put
  have ehp3 : G3 hp = some (.dK []) := by rw [← hG3, upd_ne nhp, upd_same]
  have tk3 := p3.tk hxt
  have lkh : (putF "hands" (.ref hp) (putF "make" (.ref fa) [])).lookup ("hands" : Str) = some (.ref hp) := by kernel_rfl
  have w3 : OwnAt G3 (tagUp (tagUp (fun _ => none) x (tgI 0)) hp (tgI 1)) := by
    have : OwnAt G3 (fun _ => none) := fun a t e => by cases e
    exact (this.up1 p3.obj ntI).up1 ehp3 ntK
  refine ⟨_, rfl, fa, _, _, _, rfl, rfl, SqT.of (tk3 _ _ ef trivial), at2, ga, rfl, ⟨_, SqT.of (tk3 _ _ eg trivial)⟩, for_tup (xs := gxs)
    (fun i σ H' => (∃ τ ln hk, (∀ a t, τ a = some t → a = x ∨ H a = none) ∧ OwnAt H' τ ∧ τ x = some (tgI 0) ∧ τ hp = some (tgI 1) ∧ H' hp = some (.dK hk) ∧ hk.length ≤ i ∧
        (∀ hd ∈ m.hands.take i, ∃ a, valV hk (Sum.inr hd.name) = some (.ref a) ∧ LoneAt K H' τ ln m [] hd a ((st0 m).hand hd.name)) ∧
        (∀ ch ∈ m.chans, ch.dst ∈ (m.hands.take i).map Hn.name → τ (ln ch.name) = some (6, ch.name) ∧ H' (ln ch.name) = some (.lst []))) ∧
      Bt (fun a => a = x) H H' ∧ H' x = some (.ins (C_Plain K) dx (putF "hands" (.ref hp) (putF "make" (.ref fa) []))) ∧ ∃ o2 o3 o4, σ = [some (.ref x), some (.ref fa), o2, o3, o4])
    ⟨⟨tagUp (tagUp (fun _ => none) x (tgI 0)) hp (tgI 1), fun _ => x, [], fun a t e => ?_, w3, (tagUp_ne (Ne.symm nhp)).trans tagUp_same, tagUp_same, ehp3, Nat.zero_le _, (fun hd hm => by cases hm), (fun ch hc hm => by cases hm)⟩, p3.bt, p3.obj, _, _, _, rfl⟩ (fun i σ H' _ z => SqT.of (z.2.1 _ _ eg (by rintro rfl; rw [hx] at eg; cases eg))) ?_ ?_⟩
  · by_cases q : a = hp
    · rw [q]
      exact .inr hpn
    rw [tagUp_ne q] at e
    by_cases q : a = x
    · exact .inl q
    · rw [tagUp_ne q] at e
      cases e
  · rintro i y σ H' hy ⟨⟨τ, ln, hk, t1, t2, t3, t4, t5, t6, t7, t8⟩, b2, ex, o2, o3, o4, rfl⟩
    have tk2 : Tk H H' := b2.tk fun a o ea e => by
      have ea : a = x := ea
      rw [ea] at e
      exact hxt o e
    obtain ⟨hd, hhd, iy⟩ := iml_map ig hy
    have hm := List.mem_of_getElem? hhd
    have nname : ¬ hd.name ∈ (m.hands.take i).map Hn.name := nd_take ok.hn hhd
    have hi4 : i < 4 := by
      have := (List.getElem?_eq_some_iff.mp hhd).1
      have := ok.hfew
      omega
    obtain ⟨ya, y1, y2, y3, rfl, ey, n1, n2, n3⟩ := im3 (iy.mono tk2)
    cases im_str n1
    refine ⟨ya, _, rfl, SqT.of ey, rfl, _, _, rfl, _, _, rfl, _, _, rfl, rfl, ?_⟩
    refine ⟨_, rfl, _, rfl, fun lt hlt xl dxl hxl hdxl hne => ?_⟩
    have s2 : Same H' (upd (upd (upd H' lt (.dK [])) dxl (.own xl)) xl (.ins (C_Lone K) dxl [])) := fun a o e => by
      have h1 := same_new (o := .dK []) hlt _ _ e
      rw [upd_ne (ne_of_none h1 hxl), upd_ne (ne_of_none h1 hdxl)]
      exact h1
    have elt : upd (upd (upd H' lt (.dK [])) dxl (.own xl)) xl (.ins (C_Lone K) dxl []) lt = some (.dK []) := by
      have h1 : upd H' lt (.dK []) lt = some (.dK []) := upd_same
      rw [upd_ne (ne_of_none h1 hxl), upd_ne (ne_of_none h1 hdxl)]
      exact h1
    have exl : upd (upd (upd H' lt (.dK [])) dxl (.own xl)) xl (.ins (C_Lone K) dxl []) xl = some (.ins (C_Lone K) dxl []) := upd_same
    have hxl' : H' xl = none := new_old (same_new (o := .dK []) hlt) hxl
    generalize upd (upd (upd H' lt (.dK [])) dxl (.own xl)) xl (.ins (C_Lone K) dxl []) = H2 at s2 elt exl ⊢
    have w2 := t2.same s2
    have hxlx : ∀ {z : Addr} {o : HO}, H' z = some o → z ≠ xl := fun h e => by rw [e, hxl'] at h; cases h
    have hn : ∀ z, H' z = none → H z = none := fun z hz => by
      cases e : H z with
      | none => rfl
      | some o =>
        have : z ≠ x := by rintro rfl; rw [ex] at hz; cases hz
        rw [b2 _ _ e this] at hz
        cases hz
    refine ⟨τ, m, hd, xl, dxl, lt, ok, hm, w2, t2.none hxl', rfl, exl, hf.mono (tk2.trans (Tk.of s2)), rfl, rfl, elt, rfl, fun H3 τ3 lf u1 u2 w3 b3 hL hlines => ⟨rfl, ?_⟩⟩
    have keep3 : ∀ {z : Addr} {o : HO}, H' z = some o → H3 z = some o := fun h => b3 _ _ (s2 _ _ h) (hxlx h)
    have tk23 : Tk H2 H3 := b3.tk fun a o ea e => by
      have ea : a = xl := ea
      rw [ea, exl] at e
      cases e
      exact ntI
    have b3' : BtT τ3 (fun t => t = (3, hd.name)) H2 H3 := fun a o e n => by
      by_cases q : a = xl
      · rw [q] at n
        exact absurd rfl (n _ hL.tag)
      · exact b3 _ _ e q
    refine ⟨_, rfl, x, _, dx, _, _, rfl, keep3 ex, cl, na_Plain_hands T, lkh, _, rfl, hp, _, rfl, DPut.k (k := Sum.inr hd.name) (keep3 t5) (lt_size (by omega)), ?_⟩
    have b4 : BtT τ3 (fun t => t = tgI 1) H3 (upd H3 hp (.dK (putK hk (Sum.inr hd.name) (.ref xl)))) := BtT.put (u1 _ _ t4) rfl
    have tk4 := b4.tk w3
    have w4 : OwnAt (upd H3 hp (.dK (putK hk (Sum.inr hd.name) (.ref xl)))) τ3 := w3.put ntK
    have ehp4 : upd H3 hp (.dK (putK hk (Sum.inr hd.name) (.ref xl))) hp = some (.dK (putK hk (Sum.inr hd.name) (.ref xl))) := upd_same
    have nx3 : ∀ {z : Addr} {o : HO}, H3 z = some o → z ≠ hp → upd H3 hp (.dK (putK hk (Sum.inr hd.name) (.ref xl))) z = some o := fun h n => (upd_ne n).trans h
    generalize upd H3 hp (.dK (putK hk (Sum.inr hd.name) (.ref xl))) = H4 at b4 tk4 w4 ehp4 nx3 ⊢
    have sel : ∀ ch ∈ m.chans, (m.chans.any fun c => decide (c.name = ch.name) && decide (c.dst = hd.name)) = decide (ch.dst = hd.name) := fun ch hc => by
      by_cases q : ch.dst = hd.name
      · rw [decide_eq_true q, List.any_eq_true]
        exact ⟨ch, hc, by rw [decide_eq_true rfl, decide_eq_true q]; rfl⟩
      · rw [decide_eq_false q, List.any_eq_false]
        intro c hc' z
        obtain ⟨z1, z2⟩ := Bool.and_eq_true_iff.mp z
        have := name_inj ok.cn hc' hc (of_decide_eq_true z1)
        subst this
        exact q (of_decide_eq_true z2)
    have ln1 : ∀ ch ∈ m.chans, ch.dst = hd.name → lf ch.name = (fun n => if (m.chans.any fun c => decide (c.name = n) && decide (c.dst = hd.name)) = true then lf n else ln n) ch.name := fun ch hc q => by
      show lf ch.name = if (m.chans.any fun c => decide (c.name = ch.name) && decide (c.dst = hd.name)) = true then lf ch.name else ln ch.name
      rw [sel ch hc, decide_eq_true q, if_pos rfl]
    have ln2 : ∀ ch ∈ m.chans, ch.dst ≠ hd.name → ln ch.name = (fun n => if (m.chans.any fun c => decide (c.name = n) && decide (c.dst = hd.name)) = true then lf n else ln n) ch.name := fun ch hc q => by
      show ln ch.name = if (m.chans.any fun c => decide (c.name = ch.name) && decide (c.dst = hd.name)) = true then lf ch.name else ln ch.name
      rw [sel ch hc, decide_eq_false q, if_neg Bool.false_ne_true]
    generalize (fun n => if (m.chans.any fun c => decide (c.name = n) && decide (c.dst = hd.name)) = true then lf n else ln n) = ln3 at ln1 ln2
    refine ⟨⟨τ3, ln3, _, fun a t e => ?_, w4, u1 _ _ t3, u1 _ _ t4, ehp4, Nat.le_trans (putK_len _ _ _) (by omega), fun hd' hm' => ?_, fun ch hc hm' => ?_⟩, fun a o e na => ?_, ?_, _, _, _, rfl⟩
    · rcases u2 a t e with h | h | h
      · exact t1 a t h
      · rw [h]
        exact .inr (hn _ hxl')
      · exact .inr (hn _ (new_old s2 h))
    · rw [take_snoc hhd] at hm'
      rcases List.mem_append.mp hm' with h | h
      · have hne : hd'.name ≠ hd.name := fun z => nname (z ▸ List.mem_map.mpr ⟨hd', h, rfl⟩)
        obtain ⟨a, v1, v2⟩ := t7 hd' h
        rw [valV_put, if_neg (fun z => hne (Sum.inr.inj z))]
        refine ⟨a, v1, ?_⟩
        have l1 := ((v2.same s2).tags u1).keep b3' tk23 (fun i _ _ z => by injection z with _ z; exact hne z)
        exact (l1.keep b4 tk4 (fun i h3 _ z => by injection z with z _; omega)).reln fun ch hc q => ln2 ch hc fun z => hne (q.symm.trans z)
      · have := List.mem_singleton.mp h
        subst this
        rw [valV_put, if_pos rfl]
        refine ⟨xl, rfl, ?_⟩
        rw [st0_hand ok hm]
        exact (LoneAt.keep b4 tk4 (fun i h3 _ z => by injection z with z _; omega) hL).reln ln1
    · by_cases q : ch.dst = hd.name
      · obtain ⟨z1, z2⟩ := hlines ch hc q
        rw [← ln1 ch hc q]
        exact ⟨z1, b4.get z2 z1 (fun z => by injection z with z _; omega)⟩
      · rw [take_snoc hhd, List.map_append] at hm'
        have hm2 : ch.dst ∈ (m.hands.take i).map Hn.name := by
          rcases List.mem_append.mp hm' with h | h
          · exact h
          · exact absurd (List.mem_singleton.mp h) q
        obtain ⟨z1, z2⟩ := t8 ch hc hm2
        rw [← ln2 ch hc q]
        exact ⟨u1 _ _ z1, b4.get (keep3 z2) (u1 _ _ z1) (fun z => by injection z with z _; omega)⟩
    · have na : a ≠ x := na
      exact nx3 (keep3 (b2 _ _ e na)) (by rintro rfl; rw [hpn] at e; cases e)
    · exact nx3 (keep3 ex) (by rintro rfl; rw [ex] at t5; cases t5)
  · rintro σ H' ⟨⟨τ, ln, hk, t1, t2, t3, t4, t5, t6, t7, t8⟩, b2, ex, o2, o3, o4, rfl⟩
    rw [lg, List.take_length] at t7 t8
    have tk2 : Tk H H' := b2.tk fun a o ea e => by
      have ea : a = x := ea
      rw [ea] at e
      exact hxt o e
    refine ⟨_, rfl, x, dx, _, rfl, ex, (by kernel_rfl), τ, ln, m, st0 m, x, dx, .ref fa, hp, hk, rfl, ok, ex, hf.mono tk2, t2, t3, t4, t5, t7, fun ch hc => ?_, fun H3 τ3 u1 u2 b3 hP => ?_⟩
    · obtain ⟨z1, z2⟩ := t8 ch hc (ok.ch ch hc).2.2
      exact ⟨z1, [], z2, .nil⟩
    · refine k1 H3 τ3 ln (fun a t e => ?_) (fun a o e na => ?_) hP
      · rcases u2 a t e with h | h
        · exact t1 a t h
        · by_cases q : a = x
          · exact .inl q
          · right
            cases e' : H a with
            | none => rfl
            | some o => rw [b2 _ _ e' q] at h; cases h
      · have na : a ≠ x := na
        refine b3 _ _ (b2 _ _ e na) fun z => ?_
        cases q : τ a with
        | none => exact z q
        | some t =>
          rcases t1 a t q with h | h
          · exact na h
          · rw [h] at e
            cases e
end
end SwK
set_option maxHeartbeats 8000000
/-! what a way of a make into itself does to a value: nothing -/
namespace SwK
open PySem PySem.Spec PyProof.Rows L2
/-- a thing that an expression gives, locked from there on -/
def tFreeze (t : TE) : TE := fun σ H Q => t σ H fun x H1 => ∃ d u, x = .ref d ∧ H1 d = some u ∧ Mut (some u) ∧ ∀ od, Q (.ref d) (upd H1 d (.frz od u))
theorem pe_freeze {X : Cx} {e : Expr} {t : TE} (h : PE X e t) : PE X e (tFreeze t) := by
  refine ⟨fun pins s σ H Q I hw => ?_⟩
  refine thn (h.run pins s σ H _ I hw) fun v s1 ⟨x, H1, I1, r, d, u, ex, hd, mu, q⟩ => ?_
  obtain ⟨od, I2⟩ := I1.lock hd mu
  subst ex
  exact ⟨.ref d, _, I2, r, q od⟩
theorem pairs_imG {α : Type} {g : α → Str} {f : α → Da} {K : PySem.W.Frag} {H : Hp} {v : V} {l : List α} (h : Im H v (.pt (l.map fun p => Da.tup [.str (g p), f p]))) : ∃ a o qs kvs, v = .ref a ∧ H a = some (.frz o (.tup (qs.map V.ref))) ∧ o.dict = none ∧
    Paired (fun (p : Addr) (kv : Key × V) => SqT K H p [kV kv.1, kv.2]) qs kvs ∧ KvI H kvs (l.map fun p => (g p, f p)) := by
  obtain ⟨a, o, xs, rfl, e, hd, i⟩ := im_pt h
  have key : ∀ {l : List α} {xs : List V}, ImL H xs (l.map fun p => Da.tup [.str (g p), f p]) → ∃ qs kvs, xs = qs.map V.ref ∧ Paired (fun (p : Addr) (kv : Key × V) => SqT K H p [kV kv.1, kv.2]) qs kvs ∧ KvI H kvs (l.map fun p => (g p, f p)) := by
    intro l
    induction l with
    | nil =>
      intro xs i
      cases iml_nil i
      exact ⟨[], [], rfl, .nil, .nil⟩
    | cons p l ih =>
      intro xs i
      obtain ⟨x, r, rfl, ix, ir⟩ := iml_cons i
      obtain ⟨qa, y1, y2, rfl, eq, i1, i2⟩ := im2 ix
      cases im_str i1
      obtain ⟨qs, kvs, rfl, hp, hk⟩ := ih ir
      exact ⟨qa :: qs, (Sum.inr (g p), y2) :: kvs, rfl, .cons (SqT.of eq) hp, .cons i2 hk⟩
  obtain ⟨qs, kvs, rfl, hp, hk⟩ := key i
  exact ⟨a, o, qs, kvs, rfl, e, hd, hp, hk⟩
def spTurned (n : Nat) : Sp := sp5 fun a b c d e H Q => ∃ m wx k v, Im H a (Mk0.d m) ∧ Im H b (Mk0.d m) ∧ c = .ref wx ∧ WaysAt H wx m.kinds ∧ KsOk m.kinds ∧ KsOrd m.kinds ∧ d = .str k ∧ Im H e v ∧ VT m.kinds n k v ∧ ∀ H' x, Same H H' → Im H' x v → Q x H'
theorem zip_names {F : Str × Str → Da → Prop} {ps : List (Str × Str)} {vs : List Da} (h : Paired F ps vs) : ((ps.zip vs).map fun q => q.1.1) = ps.map (·.1) := by
  induction h with
  | nil => rfl
  | cons _ _ ih =>
    rw [List.zip_cons_cons, List.map_cons, List.map_cons, ih]
theorem zip_at {α β : Type} {l : List α} {m : List β} {i : Nat} {a : α} {b : β} (h1 : l[i]? = some a) (h2 : m[i]? = some b) : (l.zip m)[i]? = some (a, b) := by
  rw [List.getElem?_zip_eq_some]
  exact ⟨h1, h2⟩
theorem paired_box {ks : List Kd} {n : Nat} {ρ : List (Str × Da)} {F : Str × Str → Da → Prop} {ps : List (Str × Str)} {vs : List Da} (h : Paired F ps vs) (k : ∀ q ∈ ps.zip vs, lkE ρ q.1.1 = some q.2) : Paired (Ev ks (n + 1) ρ) (ps.map fun p => boxD p.1) vs := by
  induction h with
  | nil => exact .nil
  | cons _ _ ih =>
    refine .cons (.inr (.inl ⟨_, rfl, ?_⟩)) (ih fun q hq => k q ?_)
    · exact k _ (by rw [List.zip_cons_cons]; exact List.mem_cons_self)
    · rw [List.zip_cons_cons]
      exact List.mem_cons_of_mem _ hq
section
variable {P : Program} {w : World} {K : PySem.W.Frag} {mg : Str → Option Value} {base : Heap}
theorem ksok_know {ks : List Kd} (h : KsOrd ks) {kd : Kd} (hm : kd ∈ ks) : ∀ p ∈ kd.parts, Knows ks p.2 := (h.ok kd hm).know
/- turned: slots 0 first 1 second 2 ways 3 kind 4 value 5 how 6 parts 7 boxes 8 f 9 part 10 thing -/
theorem sc_turned : FnScope ["first", "second", "ways", "kind", "value", "how", "parts", "boxes", "f", "part", "thing"] ["first", "second", "ways", "kind", "value"] (defScope s_turned) := ⟨rfl, rfl, rfl, by decide +kernel, rfl, by decide +kernel, by decide +kernel⟩
theorem turned_num {k : Nat} (T : Txt K mg) : C8.Cal P w K mg base (k + 1) "turned" (spTurned 0) [] := by
  refine mkCal (k := k) (f_turned T) (g_turned T) sc_turned (fun _ _ _ _ _ _ us hl => match us, hl with | [_, _, _, _, _], _ => rfl) (fun vs H Q E h => ?_) (fun vs H Q E h => ?_)
  · obtain ⟨a, b, c, d, e, rfl, _⟩ := sp5_len h
    rfl
  obtain ⟨a, b, c, d, e, rfl, m, wx, k', v, h1, h2, rfl, hw, ok, od, rfl, hv, vt, k1⟩ := sp5_len h
  intro cdv A outer s E hr
  obtain ⟨rfl, _⟩ := vt
  refine ⟨_, pss_cons (ps_if (pt_cmpR op_eq (pv 3) pe_str (nomark _)) (pss_one (ps_ret (pv 4))) pss_nil) pss_never, ?_⟩
  exact ⟨_, rfl, rfl, _, rfl, ifTD ⟨_, rfl, k1 _ _ (Same.refl _) hv⟩⟩
theorem ok_turned (T : Txt K mg) (c_parts_of : C8.Cal P w K mg base 2 "parts_of" spPartsOf []) (c_sort_of : C8.Cal P w K mg base 2 "sort_of" spSortOf []) (c_goes_to : C8.Cal P w K mg base 1 "goes_to" spGoes []) (c_worth : C8.Cal P w K mg base 20 "worth" (spWorth 8) []) :
    ∀ n : Nat, C8.Cal P w K mg base (21 + n) "turned" (spTurned n) []
  | 0 => turned_num T
  | n + 1 => by
    have c_turned := ok_turned T c_parts_of c_sort_of c_goes_to c_worth n
    show C8.Cal P w K mg base ((21 + n) + 1) "turned" (spTurned (n + 1)) []
    refine mkCal (f_turned T) (g_turned T) sc_turned (fun _ _ _ _ _ _ us hl => match us, hl with | [_, _, _, _, _], _ => rfl) (fun vs H Q E h => ?_) (fun vs H Q E h => ?_)
    · obtain ⟨a, b, c, d, e, rfl, _⟩ := sp5_len h
      rfl
    obtain ⟨a, b, c, d, e, rfl, h⟩ := sp5_len h
    intro cdv A outer s E hr
    have hu := hu_of hr
    obtain ⟨m, wx, k, v, h1, h2, rfl, hw, ok, od, rfl, hv, vt, k1⟩ := h
    refine ⟨_, (pss_cons (ps_if (pt_cmpR op_eq (pv 3) pe_str (nomark _)) (pss_one (ps_ret (pv 4))) pss_nil)
        (pss_cons (ps_set (i := 5) sc_turned.nd rfl (by first | exact .inl rfl | exact .inr rfl) (pe_ix ix_tup (pe_dget hu (pv 2) (pv 3) (fun _ _ => rfl)) pe_int (fun _ _ => rfl)))
        (pss_cons (ps_set (i := 6) sc_turned.nd rfl (by first | exact .inl rfl | exact .inr rfl) (C8.pe_c c_parts_of hr (by omega) rfl (pa_cons (pe_ix ix_tup (pv 0) pe_int (fun _ _ => rfl)) (pa_cons (pv 3) pa_nil))))
        (pss_cons (ps_set (i := 7) sc_turned.nd rfl (by first | exact .inl rfl | exact .inr rfl) pe_dnewK)
        (pss_cons (ps_if (pt_cmpR op_eq (C8.pe_c c_sort_of hr (by omega) rfl (pa_cons (pe_ix ix_tup (pv 0) pe_int (fun _ _ => rfl)) (pa_cons (pv 3) pa_nil))) pe_str (nomark _)) (pss_cons (ps_for PassesOwn.never rfl (RZ.pi_zipA rfl (z_zip T) (pa_cons (pv 6) (pa_cons (pe_ix ix_tup (pv 4) pe_int (fun _ _ => rfl)) pa_nil))) (pg_tup rfl (pgs_cons (pg_tup rfl (pgs_cons (pg_name (i := 8) sc_turned.nd rfl (by first | exact .inl rfl | exact .inr rfl)) (pgs_cons (pg_name (i := 9) sc_turned.nd rfl (by first | exact .inl rfl | exact .inr rfl)) pgs_nil))) (pgs_cons (pg_name (i := 10) sc_turned.nd rfl (by first | exact .inl rfl | exact .inr rfl)) pgs_nil))) (pss_one (ps_if (pt_cmpR op_notN (C8.pe_c c_goes_to hr (by omega) rfl (pa_cons (pv 2) (pa_cons (pv 9) pa_nil))) pe_non (nomark _)) (pss_one (ps_dput hu (pv 7) (pv 8) (C8.pe_c c_turned hr (by omega) rfl (pa_cons (pv 0) (pa_cons (pv 1) (pa_cons (pv 2) (pa_cons (pv 9) (pa_cons (pv 10) pa_nil)))))) rfl)) pss_nil)))
        (pss_one (ps_ret (C8.pe_c c_worth hr (by omega) rfl (pa_cons (pe_ix ix_tup (pv 1) pe_int (fun _ _ => rfl)) (pa_cons (pv 5) (pa_cons (pv 7) pa_nil))))))) pss_nil)
        (pss_cons (ps_set (i := 9) sc_turned.nd rfl (by first | exact .inl rfl | exact .inr rfl) (pe_dget hu (pe_callTy (call_dictT rfl) rfl (z_dict T) (by decide +kernel) (pa_cons (pv 6) pa_nil)) (pe_ix ix_tup (pv 4) pe_int (fun _ _ => rfl)) (fun _ _ => rfl)))
        (pss_cons (ps_if (pt_cmpR op_notN (C8.pe_c c_goes_to hr (by omega) rfl (pa_cons (pv 2) (pa_cons (pv 9) pa_nil))) pe_non (nomark _)) (pss_one (ps_dput hu (pv 7) pe_str (C8.pe_c c_turned hr (by omega) rfl (pa_cons (pv 0) (pa_cons (pv 1) (pa_cons (pv 2) (pa_cons (pv 9) (pa_cons (pe_ix ix_tup (pv 4) pe_int (fun _ _ => rfl)) pa_nil)))))) rfl)) pss_nil)
        (pss_one (ps_ret (C8.pe_c c_worth hr (by omega) rfl (pa_cons (pe_ix ix_tup (pv 1) pe_int (fun _ _ => rfl)) (pa_cons (pe_dget hu (pe_callTy (call_dictT rfl) rfl (z_dict T) (by decide +kernel) (pa_cons (pv 5) pa_nil)) (pe_ix ix_tup (pv 4) pe_int (fun _ _ => rfl)) (fun _ _ => rfl)) (pa_cons (pv 7) pa_nil))))))))))))), ?_⟩
    refine ⟨_, rfl, rfl, _, rfl, ?_⟩
    rcases vt with ⟨rfl, _⟩ | ⟨kd, hk, hcase⟩
    · exact ifTD ⟨_, rfl, k1 _ _ (Same.refl _) hv⟩
    obtain ⟨hm, hname⟩ := lookK_mem hk
    subst hname
    have okd := od.ok kd hm
    refine ifFD okd.num ?_
    obtain ⟨fa, f1, f2, f3, rfl, ef, j1, j2, j3⟩ := im3 h1
    obtain ⟨sa, s1, s2, s3, rfl, es, i1, i2, i3⟩ := im3 h2
    obtain ⟨kvs, hw1, hw2⟩ := hw
    have hw : WaysAt H wx m.kinds := ⟨kvs, hw1, hw2⟩
    obtain ⟨u, u1, u2⟩ := hw2.has (lkE_map (g := fun k : Kd => k.name) (f := wayD) od.nd hm)
    obtain ⟨ua, v1, v2, rfl, eu, w1, w2⟩ := im2 u2
    refine ⟨_, rfl, _, rfl, wx, _, rfl, u1 ▸ dget_s hw1, ua, _, _, _, rfl, rfl, SqT.of eu, at1, ?_⟩
    refine ⟨_, rfl, fa, _, _, _, rfl, rfl, SqT.of ef, at0, _, rfl, m.kinds, kd.name, kd, j1, rfl, hk, fun pv' iv => ?_⟩
    intro q hq
    have sq : Same H (upd H q (.dK [])) := same_new hq
    refine ⟨_, rfl, fa, _, _, _, rfl, rfl, SqT.of (sq _ _ ef), at0, _, rfl, m.kinds, kd.name, j1.mono (Tk.of sq), rfl, fun kd' e => ?_, fun e => by rw [hk] at e; cases e⟩
    rw [hk] at e
    cases e
    refine ⟨rfl, _, rfl, ?_⟩
    rcases hcase with ⟨hal, vs, rfl, hp⟩ | ⟨hal, t, p, v', ht, rfl, hv'⟩
    · -- rec
      have eh : howD kd = .tup [.str "rec", .str kd.name, .tup (kd.parts.map fun p => boxD p.1)] := by unfold howD; rw [hal]
      rw [hal]
      refine ifTD ?_
      obtain ⟨va, z1, z2, rfl, ev, b1, b2⟩ := im2 hv
      obtain ⟨ta, txs, rfl, et, it⟩ := im_tup b2
      obtain ⟨pa, po, pxs, rfl, ep, _, ip⟩ := im_pt iv
      have l1 : pxs.length = kd.parts.length := by rw [ip.length, List.length_map]
      have l2 : txs.length = kd.parts.length := by rw [it.length, hp.length]
      have hzn : ((kd.parts.zip vs).map fun q => q.1.1).Nodup := by rw [zip_names hp]; exact okd.parts
      refine ⟨_, rfl, _, rfl, va, _, _, _, rfl, rfl, SqT.of (sq _ _ ev), at1, pa, ta, pxs, txs, rfl, .inr ⟨sqT_frz (sq _ _ ep), SqT.of (sq _ _ et), RZ.for_zipT (by rw [l1, l2]) (fun i σ H' => FilledK H q (((kd.parts.zip vs).take i).map fun q => (q.1.1, q.2)) H' ∧ ∃ o8 o9 o10, σ = [some (.ref fa), some (.ref sa), some (.ref wx), some (.str kd.name), some (.ref va), some v2, some (.ref pa), some (.ref q), o8, o9, o10])
        ⟨⟨sq, [], upd_same, .nil⟩, _, _, _, rfl⟩ (fun i σ H' z => ⟨sqT_frz (z.1.1 _ _ ep), SqT.of (z.1.1 _ _ et)⟩) ?_ ?_⟩⟩
      · rintro i x y tq σ H' hx hy ⟨⟨t1, kv2, hd, hkv⟩, o8, o9, o10, rfl⟩ htq
        obtain ⟨pp, hpp, ix⟩ := iml_map ip hx
        obtain ⟨vv, hvv, iy⟩ := it.get' hy
        obtain ⟨vv', hvv', vtp⟩ := pairedAt hp hpp
        rw [hvv] at hvv'
        cases hvv'
        have t2 : Same H' (upd H' tq (.tup [x, y])) := same_new htq
        have t12 := t1.trans t2
        obtain ⟨xa, x1, x2, rfl, ex, y1, y2⟩ := im2 (ix.mono (Tk.of t12))
        cases im_str y1
        cases im_str y2
        have kn := okd.know pp (List.mem_of_getElem? hpp)
        refine ⟨tq, _, rfl, SqT.of upd_same, rfl, _, _, rfl, ⟨xa, _, rfl, SqT.of ex, rfl, _, _, rfl, _, _, rfl, rfl, _, _, rfl, rfl, ?_⟩⟩
        refine ⟨_, rfl, _, rfl, wx, m.kinds, pp.2, rfl, hw.mono t12, rfl, kn, rfl, _, rfl, iteT ?_⟩
        have hlen : kv2.length ≤ 1000 := by
          rw [hkv.length, List.length_map, List.length_take, List.length_zip]
          have := okd.few
          omega
        refine ⟨_, rfl, _, rfl, _, rfl, _, rfl, _, rfl, m, wx, pp.2, vv, h1.mono (Tk.of t12), h2.mono (Tk.of t12), rfl, hw.mono t12, ok, od, rfl, iy.mono (Tk.of t12), vtp, fun H3 r t3 ir => ?_⟩
        have t123 := t12.trans t3
        refine ⟨_, rfl, _, rfl, q, _, rfl, DPut.k (k := Sum.inr pp.1) (t3 _ _ (t2 _ _ hd)) (lt_size (by omega)), ?_, _, _, _, rfl⟩
        have z := FilledK.put hq t123 (t3 _ _ (t2 _ _ hd)) (hkv.mono (Tk.of (t2.trans t3))) (x := pp.1) ir
        rw [putE_step (g := fun q : (Str × Str) × Da => q.1.1) (f := fun q => q.2) hzn (zip_at hpp hvv)] at z
        exact z
      · rintro σ H' ⟨⟨t1, kv2, hd, hkv⟩, o8, o9, o10, rfl⟩
        have e9 : (kd.parts.zip vs).take pxs.length = kd.parts.zip vs := List.take_of_length_le (by rw [List.length_zip, l1]; omega)
        rw [e9] at hkv
        rw [eh] at w2
        refine ⟨_, rfl, sa, _, _, _, rfl, rfl, SqT.of (t1 _ _ es), at0, _, rfl, _, rfl, m.kinds, _, _, _, kv2, q, i1.mono (Tk.of t1), w2.mono (Tk.of t1), rfl, rd_of hd, hkv, ?_, fun H3 r t3 ir => k1 _ _ (t1.trans t3) ir⟩
        refine .inr (.inr (.inr (.inl ⟨kd.name, _, vs, rfl, ?_, paired_box hp fun q hq => ?_, rfl⟩)))
        · rw [List.length_map]
          exact okd.few
        · exact lkE_map (g := fun q : (Str × Str) × Da => q.1.1) (f := fun q => q.2) hzn hq
    · -- alt
      have eh : howD kd = .pt (kd.parts.map (armD kd)) := by unfold howD; rw [hal]
      rw [hal]
      refine ifFD (show ¬ ("alt" : Str) = "rec" by decide +kernel) ?_
      obtain ⟨va, z1, z2, z3, rfl, ev, b1, b2, b3⟩ := im3 hv
      cases im_str b2
      obtain ⟨pa, po, qs, rfl, ep, hod, hpr⟩ := pairs_im (K := K) iv
      have skeep : ∀ {K' : PySem.W.Frag} {H1 H2 : Hp} {p : Addr} {l : List V}, Same H1 H2 → SqT K' H1 p l → SqT K' H2 p l := fun s h => by
        rcases h with (h | ⟨o, h⟩) | h
        · exact .inl (.inl (s _ _ h))
        · exact .inl (.inr ⟨o, s _ _ h⟩)
        · exact .inr h
      refine ⟨_, rfl, pa, po, qs, _, rfl, sq _ _ ep, hod, pairedImp hpr (fun a _ b h => skeep sq h), fun D hD => ?_⟩
      have hkv : KvI (upd (upd H q (.dK [])) D (.dK (mergeK [] (kd.parts.map fun p => (Sum.inr p.1, V.str p.2))))) (mergeK [] (kd.parts.map fun p => (Sum.inr p.1, V.str p.2))) (kindsE kd.parts) := kvI_parts okd.parts
      generalize mergeK [] (kd.parts.map fun p => (Sum.inr p.1, V.str p.2)) = pk at hkv ⊢
      have sD : Same (upd H q (.dK [])) (upd (upd H q (.dK [])) D (.dK pk)) := same_new hD
      have edD : upd (upd H q (.dK [])) D (.dK pk) D = some (.dK pk) := upd_same
      have edq : upd (upd H q (.dK [])) D (.dK pk) q = some (.dK []) := sD _ _ upd_same
      generalize upd (upd H q (.dK [])) D (.dK pk) = HD at hkv sD edD edq ⊢
      have s0 := sq.trans sD
      obtain ⟨y, y1, y2⟩ := hkv.has (show lkE (kindsE kd.parts) t = some (.str p) from lkE_map (g := fun p : Str × Str => p.1) (f := fun p => Da.str p.2) okd.parts (lkE_mem ht))
      cases im_str y2
      have kn := okd.know (t, p) (lkE_mem ht)
      refine ⟨_, rfl, va, _, _, _, rfl, rfl, SqT.of (s0 _ _ ev), at1, D, _, rfl, y1 ▸ dget_s (rd_of edD), ?_⟩
      refine ⟨_, rfl, _, rfl, wx, m.kinds, p, rfl, hw.mono s0, rfl, kn, rfl, _, rfl, iteT ?_⟩
      refine ⟨_, rfl, _, rfl, _, rfl, _, rfl, _, rfl, va, _, _, _, rfl, rfl, SqT.of (s0 _ _ ev), at2, m, wx, p, v', h1.mono (Tk.of s0), h2.mono (Tk.of s0), rfl, hw.mono s0, ok, od, rfl, b3.mono (Tk.of s0), hv', fun H3 r t3 ir => ?_⟩
      refine ⟨_, rfl, q, _, rfl, DPut.k (k := Sum.inr "it") (t3 _ _ edq) (lt_size (by decide)), ?_⟩
      have s03 := s0.trans t3
      have hf := FilledK.put hq s03 (t3 _ _ edq) (.nil : KvI H3 [] []) (x := "it") ir
      generalize upd H3 q (.dK (putK [] (Sum.inr "it") r)) = H4 at hf ⊢
      obtain ⟨s4, kv4, e4, hkv4⟩ := hf
      rw [eh] at w2
      obtain ⟨ha, ho, hqs, hks, rfl, ehh, hhd, hhp, hhk⟩ := pairs_imG (K := K) (g := fun p : Str × Str => p.1) (f := fun p : Str × Str => Da.tup [.str "tag", .str kd.name, .str p.1, boxD "it"]) (show Im H v2 (.pt (kd.parts.map fun p => Da.tup [.str p.1, Da.tup [.str "tag", .str kd.name, .str p.1, boxD "it"]])) from w2)
      refine ⟨_, rfl, sa, _, _, _, rfl, rfl, SqT.of (s4 _ _ es), at0, _, rfl, ha, ho, hqs, hks, rfl, s4 _ _ ehh, hhd, pairedImp hhp (fun a _ b h => skeep s4 h), fun D2 hD2 => ?_⟩
      have hkv5 : KvI H4 (mergeK [] hks) (kd.parts.map fun p => (p.1, Da.tup [.str "tag", .str kd.name, .str p.1, boxD "it"])) := by
        have := kvI_merge (hhk.mono (Tk.of s4)) (ks := []) (ρ := []) .nil (by rw [List.nil_append, List.map_map]; exact okd.parts)
        exact this
      generalize mergeK [] hks = mk5 at hkv5 ⊢
      have s5 : Same H4 (upd H4 D2 (.dK mk5)) := same_new hD2
      obtain ⟨y5, y51, y52⟩ := hkv5.has (lkE_map (g := fun p : Str × Str => p.1) (f := fun p : Str × Str => Da.tup [.str "tag", .str kd.name, .str p.1, boxD "it"]) okd.parts (lkE_mem ht))
      refine ⟨_, rfl, va, _, _, _, rfl, rfl, SqT.of (s5 _ _ (s4 _ _ ev)), at1, D2, _, rfl, y51 ▸ dget_s (rd_of upd_same), _, rfl, m.kinds, _, _, _, kv4, q, i1.mono (Tk.of (s4.trans s5)), y52.mono (Tk.of s5), rfl, rd_of (s5 _ _ e4), hkv4.mono (Tk.of s5), ?_, fun H6 r6 t6 ir6 => k1 _ _ ((s4.trans s5).trans t6) ir6⟩
      exact .inr (.inr (.inr (.inr (.inr (.inl ⟨kd.name, t, boxD "it", v', rfl, .inr (.inl ⟨"it", rfl, rfl⟩), rfl⟩)))))
end
end SwK
set_option maxHeartbeats 8000000
/-! a change -/
namespace SwK
open PySem PySem.Spec PyProof.Rows L2
theorem valV_mem {κ : Type} [DecidableEq κ] {kvs : List (κ × V)} {k : κ} {v : V} (h : valV kvs k = some v) : (k, v) ∈ kvs := by
  induction kvs with
  | nil => cases h
  | cons p l ih =>
    by_cases e : p.1 = k
    · rw [valV_pos e] at h
      cases h
      subst e
      exact List.mem_cons_self
    · rw [valV_neg e] at h
      exact List.mem_cons_of_mem _ (ih h)
theorem putE_take {l : List (Str × Da)} (hn : (l.map (·.1)).Nodup) {i : Nat} {p : Str × Da} (e : l[i]? = some p) : putE (l.take i) p.1 p.2 = l.take (i + 1) := by
  rw [putE_new _ (nd_take hn e), take_snoc e]
section
variable (K : PySem.W.Frag)
def spPlace : Sp := sp3 fun a b c H Q => ∃ x wx px f s m hd i, a = .ref x ∧ OverAt K H x wx px f s m ∧ b = .str hd.name ∧ HnOk m hd ∧ c = .int (i : Nat) ∧ i < hd.rows.length ∧
  (∀ H', Same H H' → Q .non H') ∧ (∀ H' r l kvs v, Same H H' → (∃ c x, Rw.take l c x ∈ hd.rows) → H px = some (.dT kvs) → valV kvs [Sum.inr hd.name, Sum.inr l] = some v → H' r = some (.tup [.str hd.name, .str l]) → Q (.ref r) H')
def spBoxT : Sp := sp3 fun a b c H Q => ∃ x wx px f s m hd bx kvs env, a = .ref x ∧ OverAt K H x wx px f s m ∧ MkOk m ∧ KsOrd m.kinds ∧ b = .str hd.name ∧ HnOk m hd ∧ EnvT m.kinds hd.boxes env ∧ c = .ref bx ∧ H bx = some (.dK kvs) ∧ KvI H kvs env ∧ ∀ H' q, H q = none → FilledK H q env H' → Q (.ref q) H'
def spBrought : Sp := sp3 fun a b c H Q => ∃ x wx px f s m hd sr q kvs env i, a = .ref x ∧ OverAt K H x wx px f s m ∧ MkOk m ∧ KsOrd m.kinds ∧ b = .str hd.name ∧ HnOk m hd ∧ EnvT m.kinds hd.boxes env ∧ c = .ref sr ∧ H sr = some (.tup [.int (i : Nat), .ref q]) ∧ i < hd.rows.length ∧ H q = some (.dK kvs) ∧ KvI H kvs env ∧
  (∀ H', Same H H' → Q .non H') ∧ ∀ H' r y1 y2, Same H H' → H' r = some (.tup [y1, y2]) → Q (.ref r) H'
def spBefore : Sp := sp4 fun a b c d H Q => ∃ x dx bb kvs, a = .ref x ∧ H x = some (.ins (C_Before K) dx []) ∧ c = .ref bb ∧ H bb = some (.dK kvs) ∧ ∀ H', Bt (fun a => a = x) H H' → Q .non H'
def spBecomes : Sp := sp2 fun a b H Q => ∃ x dx mk l bx nx dn bf kvs r y1 y2, a = .ref x ∧ H x = some (.ins (C_Half K) dx (A_Half mk l (.ref bx) nx dn bf)) ∧ H bx = some (.dK kvs) ∧ b = .ref r ∧ H r = some (.tup [y1, y2]) ∧ ∀ H', Bt (fun a => a = x) H H' → Q .non H'
def spStand2 : Sp := sp2 fun a b H Q => ∃ mp h ha dxh bx kvs l nx dn bf mk env, a = .ref mp ∧ b = .str h ∧ HandOf K H mp h ha ∧ H ha = some (.ins (C_Half K) dxh (A_Half mk (.int l) (.ref bx) nx dn bf)) ∧ H bx = some (.dK kvs) ∧ KvI H kvs env ∧
  ∀ H' r q kvs, Same H H' → H' r = some (.tup [.int l, .ref q]) → H' q = some (.dK kvs) → KvI H' kvs env → Q (.ref r) H'
def spChange : Sp := sp2 fun a b H Q => ∃ τ m mp ov wx px f s dx hp rp hk hd ha hs, a = .ref mp ∧ b = .str hd.name ∧ MkOk m ∧ KsOrd m.kinds ∧ HnOk m hd ∧ OverAt K H ov wx px f s m ∧ H mp = some (.ins (C_Mixed K) dx (A_Mixed (.ref ov) (.ref hp) rp)) ∧ H hp = some (.dK hk) ∧ valV hk (Sum.inr hd.name) = some (.ref ha) ∧ HalfAt K H τ hd.name ha hs ∧
  EnvT m.kinds hd.boxes hs.env ∧ hs.line < hd.rows.length ∧ ∀ H' r, Bt (fun a => a = ha) H H' → Q (.bl r) H'
end
theorem OverAt.same {K : PySem.W.Frag} {H H' : Hp} {x wx px : Addr} {f s : V} {m : Mk0} (q : Same H H') (o : OverAt K H x wx px f s m) : OverAt K H' x wx px f s m := by
  obtain ⟨⟨dx, lk, e⟩, h1, h2, ⟨k1, k2, k3⟩, ⟨p1, p2, p3⟩⟩ := o
  exact ⟨⟨dx, lk, q _ _ e⟩, h1.mono (Tk.of q), h2.mono (Tk.of q), ⟨k1, q _ _ k2, k3.mono (Tk.of q)⟩, ⟨p1, q _ _ p2, p3.mono (Tk.of q)⟩⟩
section
variable {P : Program} {w : World} {K : PySem.W.Frag} {mg : Str → Option Value} {base : Heap}
/- place_of: slots 0 over 1 h 2 row 3 one -/
theorem sc_place_of : FnScope ["over", "h", "row", "one"] ["over", "h", "row"] (defScope s_place_of) := ⟨rfl, rfl, rfl, by decide +kernel, rfl, by decide +kernel, by decide +kernel⟩
theorem ok_place_of (T : Txt K mg) (c_hand_of : C8.Cal P w K mg base 2 "hand_of" spHandOf []) : C8.Cal P w K mg base 3 "place_of" (spPlace K) [] := by
  refine mkCal (f_place_of T) (g_place_of T) sc_place_of (fun _ _ _ _ _ _ us hl => match us, hl with | [_, _, _], _ => rfl) (fun vs H Q E h => ?_) (fun vs H Q E h => ?_)
  · obtain ⟨a, b, c, rfl, _⟩ := sp3_len h
    rfl
  obtain ⟨a, b, c, rfl, h⟩ := sp3_len h
  intro cdv A outer s E hr
  have hu := hu_of hr
  obtain ⟨x, wx, px, f, s0, m, hd, i, rfl, ho, rfl, ok, rfl, hi, k1, k2⟩ := h
  obtain ⟨⟨dx, lk, ex⟩, hf, hs, _, ⟨kvs, ep, hpl⟩⟩ := ho
  have cO := cl_Over T
  refine ⟨_, (pss_cons (ps_set (i := 3) sc_place_of.nd rfl (by first | exact .inl rfl | exact .inr rfl) (pe_ix ix_tup (pe_ix ix_tup (C8.pe_c c_hand_of hr (by omega) rfl (pa_cons (pe_fld (pv 0) rfl) (pa_cons (pv 1) pa_nil))) pe_int (fun _ _ => rfl)) (pv 2) (fun _ _ => rfl)))
        (pss_cons (ps_if (PW.pt (pw_and (pt_cmpR op_eq (pe_ix ix_tup (pv 3) pe_int (fun _ _ => rfl)) pe_str (nomark _)) (pw_and1 (pt_cmp (pc_din hu (pe_tup (pa_cons (pv 1) (pa_cons (pe_ix ix_tup (pv 3) pe_int (fun _ _ => rfl)) pa_nil))) (pe_fld (pv 0) rfl)))))) (pss_one (ps_ret (pe_tup (pa_cons (pv 1) (pa_cons (pe_ix ix_tup (pv 3) pe_int (fun _ _ => rfl)) pa_nil))))) pss_nil)
        (pss_one (ps_ret pe_non)))), ?_⟩
  refine ⟨_, rfl, x, _, dx, _, _, rfl, ex, cO, na_Over_first T, l_Over_first, _, rfl, m, hd.name, hd, hf, rfl, ok.here, fun v iv => ?_⟩
  obtain ⟨hq, y1, y2, y3, rfl, eh, i1, i2, i3⟩ := im3 iv
  obtain ⟨rq, rxs, rfl, er, ir⟩ := im_tup i3
  obtain ⟨row, hrow⟩ : ∃ row, hd.rows[i]? = some row := ⟨hd.rows[i], by simp [hi]⟩
  obtain ⟨rv, hrv, irv⟩ := ir.get (j := i) (d := row.d) (by rw [List.getElem?_map, hrow]; rfl)
  obtain ⟨p, pxs, rfl, epp⟩ := rw_head irv
  refine ⟨hq, _, _, _, rfl, rfl, SqT.of eh, at2, _, rfl, rq, _, _, _, rfl, rfl, SqT.of er, atI_nat hrv, ?_⟩
  refine ⟨_, rfl, p, _, _, _, rfl, rfl, SqT.of epp, at0, rfl, _, rfl, ?_⟩
  by_cases hw : row.word = "take"
  · obtain ⟨l, c, x', rfl⟩ := rw_take hw
    obtain ⟨p', z1, z2, z3, z4, z, ep', n1, n2, n3, n4⟩ := im4 irv
    cases z
    cases im_str n2
    refine ifTD ⟨_, rfl, _, rfl, p, _, _, _, rfl, rfl, SqT.of ep', at1, le_size (by show 2 ≤ 100000; decide), fun tq htq => ?_⟩
    have s1 : Same H (upd H tq (.tup [.str hd.name, .str l])) := same_new htq
    refine ⟨_, rfl, x, _, dx, _, _, rfl, s1 _ _ ex, cO, na_Over_places T, l_Over_places, px, _, rfl, DGet.t (k := [Sum.inr hd.name, Sum.inr l]) (s1 _ _ ep) upd_same, _, rfl, ?_⟩
    cases hv : valV kvs [Sum.inr hd.name, Sum.inr l] with
    | none => exact iteF (k1 _ s1)
    | some v =>
      refine iteT ⟨_, rfl, _, rfl, p, _, _, _, rfl, rfl, SqT.of (s1 _ _ ep'), at1, le_size (by show 2 ≤ 100000; decide), fun rr hrr => ?_⟩
      exact k2 _ rr l kvs v (s1.trans (same_new hrr)) ⟨c, x', List.mem_of_getElem? hrow⟩ ep hv upd_same
  · exact ifFD hw (iteF (k1 _ (Same.refl _)))
/- boxes_turned: slots 0 over 1 h 2 boxes 3 kinds 4 found 5 x -/
theorem sc_boxes_turned : FnScope ["over", "h", "boxes", "kinds", "found", "x"] ["over", "h", "boxes"] (defScope s_boxes_turned) := ⟨rfl, rfl, rfl, by decide +kernel, rfl, by decide +kernel, by decide +kernel⟩
theorem ok_boxes_turned (T : Txt K mg) (c_hand_of : C8.Cal P w K mg base 2 "hand_of" spHandOf []) (c_boxes_over_places : C8.Cal P w K mg base 3 "boxes_over_places" spBop []) (c_turned : C8.Cal P w K mg base 25 "turned" (spTurned 4) []) : C8.Cal P w K mg base 26 "boxes_turned" (spBoxT K) [] := by
  refine mkCal (f_boxes_turned T) (g_boxes_turned T) sc_boxes_turned (fun _ _ _ _ _ _ us hl => match us, hl with | [_, _, _], _ => rfl) (fun vs H Q E h => ?_) (fun vs H Q E h => ?_)
  · obtain ⟨a, b, c, rfl, _⟩ := sp3_len h
    rfl
  obtain ⟨a, b, c, rfl, h⟩ := sp3_len h
  intro cdv A outer s E hr
  have hu := hu_of hr
  obtain ⟨x, wx, px, f, s0, m, hd, bx, kvs, env, rfl, ho, mok, od, rfl, ok, he, rfl, hb, hkv, k1⟩ := h
  have ho0 := ho
  obtain ⟨⟨dx, lk, ex⟩, hf, hs, ⟨wk, hw1, hw2⟩, _⟩ := ho
  have hw : WaysAt H wx m.kinds := ⟨wk, rd_of hw1, hw2⟩
  have cO := cl_Over T
  refine ⟨_, (pss_cons (ps_set (i := 3) sc_boxes_turned.nd rfl (by first | exact .inl rfl | exact .inr rfl) (pe_callTy (call_dictT rfl) rfl (z_dict T) (by decide +kernel) (pa_cons (pe_ix ix_tup (C8.pe_c c_hand_of hr (by omega) rfl (pa_cons (pe_fld (pv 0) rfl) (pa_cons (pv 1) pa_nil))) pe_int (fun _ _ => rfl)) pa_nil)))
        (pss_cons (ps_set (i := 4) sc_boxes_turned.nd rfl (by first | exact .inl rfl | exact .inr rfl) pe_dnewK)
        (pss_cons (ps_for PassesOwn.never rfl (pi_keys (pe_freeze (C8.pe_c c_boxes_over_places hr (by omega) rfl (pa_cons (pe_fld (pv 0) rfl) (pa_cons (pe_fld (pv 0) rfl) (pa_cons (pv 1) pa_nil)))))) (pg_name (i := 5) sc_boxes_turned.nd rfl (by first | exact .inl rfl | exact .inr rfl)) (pss_one (ps_dput hu (pv 4) (pv 5) (C8.pe_c c_turned hr (by omega) rfl (pa_cons (pe_fld (pv 0) rfl) (pa_cons (pe_fld (pv 0) rfl) (pa_cons (pe_fld (pv 0) rfl) (pa_cons (pe_dget hu (pv 3) (pv 5) (fun _ _ => rfl)) (pa_cons (pe_dget hu (pv 2) (pv 5) (fun _ _ => rfl)) pa_nil)))))) rfl)))
        (pss_one (ps_ret (pv 4)))))), ?_⟩
  refine ⟨_, rfl, x, _, dx, _, _, rfl, ex, cO, na_Over_first T, l_Over_first, _, rfl, m, hd.name, hd, hf, rfl, ok.here, fun v iv => ?_⟩
  obtain ⟨hq, y1, y2, y3, rfl, eh, i1, i2, i3⟩ := im3 iv
  obtain ⟨pa, po, qs, rfl, ep, hod, hpr⟩ := pairs_im (K := K) i2
  refine ⟨hq, _, _, _, rfl, rfl, SqT.of eh, at1, pa, po, qs, _, rfl, ep, hod, hpr, fun D hD => ?_⟩
  have hkb : KvI (upd H D (.dK (mergeK [] (hd.boxes.map fun p => (Sum.inr p.1, V.str p.2))))) (mergeK [] (hd.boxes.map fun p => (Sum.inr p.1, V.str p.2))) (kindsE hd.boxes) := kvI_parts ok.nd
  generalize mergeK [] (hd.boxes.map fun p => (Sum.inr p.1, V.str p.2)) = pk at hkb ⊢
  have sD : Same H (upd H D (.dK pk)) := same_new hD
  have eD : upd H D (.dK pk) D = some (.dK pk) := upd_same
  generalize upd H D (.dK pk) = H1 at hkb sD eD ⊢
  intro q hq'
  have sq : Same H1 (upd H1 q (.dK [])) := same_new hq'
  have eq' : upd H1 q (.dK []) q = some (.dK []) := upd_same
  generalize upd H1 q (.dK []) = H2 at sq eq' ⊢
  have s2 := sD.trans sq
  refine ⟨_, rfl, x, _, dx, _, _, rfl, s2 _ _ ex, cO, na_Over_first T, l_Over_first, _, rfl, x, _, dx, _, _, rfl, s2 _ _ ex, cO, na_Over_ways T, l_Over_ways, _, rfl, m, wx, hd, hf.mono (Tk.of s2), rfl, hw.mono s2, rfl, ok, fun H3 bq hbq hfk => ?_⟩
  obtain ⟨s3, bk, ebk, hbk⟩ := hfk
  refine ⟨bq, _, rfl, ebk, trivial, fun o => ⟨bq, o, rfl, .inl ⟨bk, upd_same, ?_⟩⟩⟩
  have hqn : H q = none := new_old sD hq'
  have s4 : Same H2 (upd H3 bq (.frz o (.dK bk))) := same_put s3 hbq
  have s04 := s2.trans s4
  have hnd : (env.map (·.1)).Nodup := by rw [he.1]; exact he.2.1
  have hbl : bk.length = hd.boxes.length := by
    rw [hbk.length]
    unfold kindsE
    rw [List.length_map]
  generalize hH4 : upd H3 bq (.frz o (.dK bk)) = H4 at s4 s04
  have ebf : H4 bq = some (.frz o (.dK bk)) := by rw [← hH4, upd_same]
  have nq : ∀ {z : Addr} {o : HO}, H z = some o → z ≠ q := fun h e => by rw [e, hqn] at h; cases h
  have nqD : D ≠ q := by rintro rfl; rw [eD] at hq'; cases hq'
  have nqb : bq ≠ q := by rintro rfl; rw [eq'] at hbq; cases hbq
  have e4q : H4 q = some (.dK []) := s4 _ _ eq'
  have e4D : H4 D = some (.dK pk) := s4 _ _ (sq _ _ eD)
  refine L2.for_it walk_keys (fun i σ H' => Bt (fun a => a = q) H4 H' ∧ (∃ kv, H' q = some (.dK kv) ∧ KvI H' kv (env.take i)) ∧ ∃ o5, σ = [some (.ref x), some (.str hd.name), some (.ref bx), some (.ref D), some (.ref q), o5]) ⟨Bt.of (Same.refl _), ⟨[], e4q, .nil⟩, _, rfl⟩ (fun i σ H' _ z => z.1 _ _ ebf nqb) ?_ ?_
  · rintro i y σ H5 H' hi ⟨b5, ⟨kv, ekv, hkv5⟩, o5, rfl⟩ ⟨rfl, k, v, hk, rfl⟩
    have hib : i < hd.boxes.length := by omega
    obtain ⟨bb, hbb⟩ : ∃ bb, hd.boxes[i]? = some bb := ⟨hd.boxes[i], by simp [hib]⟩
    obtain ⟨v', e1, _⟩ := hbk.at (i := i) (x := bb.1) (d := .str bb.2) (by unfold kindsE; rw [List.getElem?_map, hbb]; rfl)
    rw [hk] at e1
    cases e1
    have hel := he.len
    obtain ⟨ee, hee⟩ : ∃ ee, env[i]? = some ee := ⟨env[i]'(by omega), by simp⟩
    have hname : ee.1 = bb.1 := by
      have := congrArg (fun l => l[i]?) he.1
      simp only [List.getElem?_map, hee, hbb] at this
      exact Option.some.inj this
    obtain ⟨vv, hv1, hv2⟩ := he.2.2 bb.1 bb.2 (lkE_of_mem ok.nd (List.mem_of_getElem? hbb))
    rw [← hname, lkE_of_mem hnd (List.mem_of_getElem? hee)] at hv1
    cases hv1
    have sH : Same H H' := fun a o e => b5 _ _ (s04 _ _ e) (nq e)
    obtain ⟨u, u1, u2⟩ := hkb.has (lkE_map (g := fun p : Str × Str => p.1) (f := fun p => Da.str p.2) ok.nd (List.mem_of_getElem? hbb))
    cases im_str u2
    obtain ⟨ev, ev1, ev2⟩ := (hkv.mono (Tk.of sH)).has (lkE_of_mem hnd (List.mem_of_getElem? hee))
    rw [hname] at ev1
    have eD' : H' D = some (.dK pk) := b5 _ _ e4D nqD
    refine ⟨_, rfl, x, _, dx, _, _, rfl, sH _ _ ex, cO, na_Over_first T, l_Over_first, _, rfl, x, _, dx, _, _, rfl, sH _ _ ex, cO, na_Over_second T, l_Over_second, _, rfl, x, _, dx, _, _, rfl, sH _ _ ex, cO, na_Over_ways T, l_Over_ways,
      _, rfl, _, rfl, D, _, rfl, u1 ▸ dget_s (rd_of eD'), _, rfl, _, rfl, bx, _, rfl, ev1 ▸ dget_s (rd_of (sH _ _ hb)), m, wx, bb.2, ee.2, hf.mono (Tk.of sH), hs.mono (Tk.of sH), rfl, hw.mono sH, mok.ks, od, rfl, ev2, hv2, fun H6 r t6 ir => ?_⟩
    have hlen : kv.length ≤ 1000 := by
      rw [hkv5.length, List.length_take]
      have := ok.few
      omega
    refine ⟨_, rfl, _, rfl, q, _, rfl, DPut.k (k := Sum.inr bb.1) (t6 _ _ ekv) (lt_size (by omega)), (b5.trans (Bt.of t6)).trans (Bt.put rfl), ⟨_, upd_same, ?_⟩, _, rfl⟩
    have z := ((hkv5.mono (Tk.of t6)).put ir (x := ee.1)).mono (tk_put (o := .dK (putK kv (Sum.inr ee.1) r)) (t6 _ _ ekv) ntK)
    rw [putE_take hnd hee] at z
    rw [← hname]
    exact z
  · rintro σ H' ⟨b5, ⟨kv, ekv, hkv5⟩, o5, rfl⟩
    rw [hbl, ← he.len, List.take_length] at hkv5
    exact ⟨_, rfl, k1 H' q hqn ⟨fun a o e => b5 _ _ (s04 _ _ e) (nq e), kv, ekv, hkv5⟩⟩
/- brought: slots 0 over 1 h 2 stand 3 place 4 l 5 sets 6 known 7 boxes 8 x 9 term -/
theorem sc_brought : FnScope ["over", "h", "stand", "place", "l", "sets", "known", "boxes", "x", "term"] ["over", "h", "stand"] (defScope s_brought) := ⟨rfl, rfl, rfl, by decide +kernel, rfl, by decide +kernel, by decide +kernel⟩
theorem ok_brought (T : Txt K mg) (c_place_of : C8.Cal P w K mg base 3 "place_of" (spPlace K) []) (c_boxes_turned : C8.Cal P w K mg base 26 "boxes_turned" (spBoxT K) []) (c_worth : C8.Cal P w K mg base 20 "worth" (spWorth 8) []) (c_mark_row : C8.Cal P w K mg base 3 "mark_row" spMarkRow []) : C8.Cal P w K mg base 27 "brought" (spBrought K) [] := by
  refine mkCal (f_brought T) (g_brought T) sc_brought (fun _ _ _ _ _ _ us hl => match us, hl with | [_, _, _], _ => rfl) (fun vs H Q E h => ?_) (fun vs H Q E h => ?_)
  · obtain ⟨a, b, c, rfl, _⟩ := sp3_len h
    rfl
  obtain ⟨a, b, c, rfl, h⟩ := sp3_len h
  intro cdv A outer s E hr
  have hu := hu_of hr
  obtain ⟨x, wx, px, f, s0, m, hd, sr, q, kvs, env, i, rfl, ho, mok, od, rfl, ok, he, rfl, hsr, hi, hq, hkv, k1, k2⟩ := h
  have ho0 := ho
  obtain ⟨⟨dx, lk, ex⟩, hf, hs, _, ⟨pkvs, ep, hpl⟩⟩ := ho
  have cO := cl_Over T
  refine ⟨_, (pss_cons (ps_set (i := 3) sc_brought.nd rfl (by first | exact .inl rfl | exact .inr rfl) (C8.pe_c c_place_of hr (by omega) rfl (pa_cons (pv 0) (pa_cons (pv 1) (pa_cons (pe_ix ix_tup (pv 2) pe_int (fun _ _ => rfl)) pa_nil)))))
        (pss_cons (ps_if (pt_cmpR op_isN (pv 3) pe_non (nomark _)) (pss_one (ps_ret pe_non)) pss_nil)
        (pss_cons (ps_asg (pe_dget hu (pe_fld (pv 0) rfl) (pv 3) (fun _ _ => rfl)) (pg_tup rfl (pgs_cons (pg_name (i := 4) sc_brought.nd rfl (by first | exact .inl rfl | exact .inr rfl)) (pgs_cons (pg_name (i := 5) sc_brought.nd rfl (by first | exact .inl rfl | exact .inr rfl)) pgs_nil))))
        (pss_cons (ps_set (i := 6) sc_brought.nd rfl (by first | exact .inl rfl | exact .inr rfl) (C8.pe_c c_boxes_turned hr (by omega) rfl (pa_cons (pv 0) (pa_cons (pv 1) (pa_cons (pe_ix ix_tup (pv 2) pe_int (fun _ _ => rfl)) pa_nil)))))
        (pss_cons (ps_set (i := 7) sc_brought.nd rfl (by first | exact .inl rfl | exact .inr rfl) pe_dnewK)
        (pss_cons (ps_for PassesOwn.never rfl (pi_tup (pv 5)) (pg_tup rfl (pgs_cons (pg_name (i := 8) sc_brought.nd rfl (by first | exact .inl rfl | exact .inr rfl)) (pgs_cons (pg_name (i := 9) sc_brought.nd rfl (by first | exact .inl rfl | exact .inr rfl)) pgs_nil))) (pss_one (ps_dput hu (pv 7) (pv 8) (C8.pe_c c_worth hr (by omega) rfl (pa_cons (pe_ix ix_tup (pe_fld (pv 0) rfl) pe_int (fun _ _ => rfl)) (pa_cons (pv 9) (pa_cons (pv 6) pa_nil)))) rfl)))
        (pss_one (ps_ret (pe_tup (pa_cons (C8.pe_c c_mark_row hr (by omega) rfl (pa_cons (pe_fld (pv 0) rfl) (pa_cons (pv 1) (pa_cons (pv 4) pa_nil)))) (pa_cons (pv 7) pa_nil))))))))))), ?_⟩
  refine ⟨_, rfl, _, rfl, _, rfl, sr, _, _, _, rfl, rfl, SqT.of hsr, at0, x, wx, px, f, s0, m, hd, i, rfl, ho0, rfl, ok, rfl, hi, fun H1 s1 => ?_, fun H1 r l kv1 v s1 htake ep1 hv er => ?_⟩
  · exact ⟨_, rfl, rfl, _, rfl, iteT (k1 _ s1)⟩
  rw [ep] at ep1
  cases ep1
  refine ⟨_, rfl, rfl, _, rfl, iteF ?_⟩
  obtain ⟨hd', l', w1, w2, w3, w4⟩ := hpl _ _ (valV_mem hv)
  injection w1 with w11 w12
  injection w12 with w12 _
  have en : hd.name = hd'.name := Sum.inr.inj w11
  have el : l = l' := Sum.inr.inj w12
  have ehd : hd' = hd := by
    have h1 := w2.here
    rw [← en, ok.here] at h1
    exact (Option.some.inj h1).symm
  subst ehd el
  obtain ⟨va, z1, z2, rfl, ev, n1, n2⟩ := im2 (w4.mono (Tk.of s1))
  cases im_str n1
  obtain ⟨sa, sxs, rfl, es, is⟩ := im_tup n2
  refine ⟨_, rfl, x, _, dx, _, _, rfl, s1 _ _ ex, cO, na_Over_places T, l_Over_places, _, rfl, px, _, rfl, hv ▸ DGet.t (k := [Sum.inr hd'.name, Sum.inr l]) (s1 _ _ ep) er, va, _, rfl, SqT.of ev, rfl, _, _, rfl, _, _, rfl, rfl, ?_⟩
  refine ⟨_, rfl, _, rfl, _, rfl, sr, _, _, _, rfl, rfl, SqT.of (s1 _ _ hsr), at1, x, wx, px, f, s0, m, hd', q, kvs, env, rfl, ho0.same s1, mok, od, rfl, ok, he, rfl, s1 _ _ hq, hkv.mono (Tk.of s1), fun H2 kq hkq hfk => ?_⟩
  obtain ⟨s2, kk, ekk, hkk⟩ := hfk
  have s12 := s1.trans s2
  obtain ⟨fq, g1, g2, g3, rfl, efq, m1, m2, m3⟩ := im3 (hs.mono (Tk.of s12))
  intro nq hnq
  have s3 : Same H2 (upd H2 nq (.dK [])) := same_new hnq
  have hsl : sxs.length = hd'.boxes.length := by rw [is.length, List.length_map]
  refine ⟨_, rfl, sa, rfl, ⟨_, SqT.of (s3 _ _ (s2 _ _ es))⟩, for_tup (xs := sxs) (fun j σ H' => Same H2 H' ∧ (∃ kv, H' nq = some (.dK kv) ∧ kv.length ≤ j) ∧ ∃ o8 o9, σ = [some (.ref x), some (.str hd'.name), some (.ref sr), some (.ref r), some (.str l), some (.ref sa), some (.ref kq), some (.ref nq), o8, o9])
    ⟨s3, ⟨[], upd_same, Nat.le_refl _⟩, _, _, rfl⟩ (fun j σ H' _ z => SqT.of (z.1 _ _ (s2 _ _ es))) ?_ ?_⟩
  · rintro j y σ H' hy ⟨t1, ⟨kv, ekv, hlk⟩, o8, o9, rfl⟩
    obtain ⟨bb, hbb, iy⟩ := iml_map is hy
    have t2 := s2.trans t1
    have t12 := s12.trans t1
    obtain ⟨ya, y1, y2, rfl, ey, j1, j2⟩ := im2 (iy.mono (Tk.of t2))
    cases im_str j1
    obtain ⟨vv, hv1, hv2⟩ := he.2.2 bb.1 bb.2 (lkE_of_mem ok.nd (List.mem_of_getElem? hbb))
    have hj : j < hd'.boxes.length := (List.getElem?_eq_some_iff.mp hbb).1
    refine ⟨ya, _, rfl, SqT.of ey, rfl, _, _, rfl, _, _, rfl, rfl, ?_⟩
    refine ⟨_, rfl, x, _, dx, _, _, rfl, t12 _ _ ex, cO, na_Over_second T, l_Over_second, fq, _, _, _, rfl, rfl, SqT.of (t1 _ _ efq), at0, _, rfl, _, rfl, m.kinds, env, _, vv, kk, kq, m1.mono (Tk.of t1), j2, rfl, rd_of (t1 _ _ ekk), hkk.mono (Tk.of t1), .inr (.inl ⟨bb.1, rfl, hv1⟩), fun H3 u t3 iu => ?_⟩
    refine ⟨_, rfl, _, rfl, nq, _, rfl, DPut.k (k := Sum.inr bb.1) (t3 _ _ ekv) (lt_size (by have := ok.few; omega)), same_put (t1.trans t3) hnq, ⟨_, upd_same, Nat.le_trans (putK_len _ _ _) (by omega)⟩, _, _, rfl⟩
  · rintro σ H' ⟨t1, ⟨kv, ekv, hlk⟩, o8, o9, rfl⟩
    have t12 := s12.trans t1
    refine ⟨_, rfl, x, _, dx, _, _, rfl, t12 _ _ ex, cO, na_Over_second T, l_Over_second, _, rfl, _, rfl, m, hd', l, hs.mono (Tk.of t12), rfl, ok, rfl, htake, fun H3 k t3 => ?_⟩
    refine ⟨_, rfl, le_size (by show 2 ≤ 100000; decide), fun rr hrr => ?_⟩
    exact k2 _ rr _ _ ((t12.trans t3).trans (same_new hrr)) upd_same
/- Before.__init__: slots 0 self 1 line 2 boxes 3 tally -/
theorem sc_Before_init : FnScope ["self", "line", "boxes", "tally"] ["self", "line", "boxes", "tally"] (defScope s_Before_init) := ⟨rfl, rfl, rfl, by decide +kernel, rfl, by decide +kernel, by decide +kernel⟩
theorem ok_Before (T : Txt K mg) : C8.Mak P w K mg base 1 "Before" (C_Before K) (spBefore K) [] := by
  refine mkMak (f_Before_init T) (g_Before T) (mk_Before T) sc_Before_init (fun _ _ _ _ _ _ us hl => match us, hl with | [_, _, _, _], _ => rfl) (fun vs H Q E h => ?_) (fun vs H Q E h => ?_)
  · obtain ⟨a, b, c, d, rfl, _⟩ := sp4_len h
    rfl
  obtain ⟨a, b, c, d, rfl, h⟩ := sp4_len h
  intro cdv A outer s E hr
  have hu := hu_of hr
  obtain ⟨x, dx, bb, kvs, rfl, hx, rfl, hb, k1⟩ := h
  have cl := cl_Before T
  refine ⟨_, (pss_cons (ps_fld (pv 0) (pv 1) rfl)
        (pss_cons (ps_fld (pv 0) (pe_callTy call_dictD rfl (z_dict T) (by decide +kernel) (pa_cons (pv 2) pa_nil)) rfl)
        (pss_cons (ps_fld (pv 0) (pv 3) rfl)
        (pss_one (ps_fld (pv 0) pe_dnewK rfl))))), ?_⟩
  refine ⟨_, rfl, _, rfl, x, _, dx, _, rfl, hx, cl, na_Before_line T, (by show (0 : Nat) < 1000; decide), ?_⟩
  have p1 : Pre H (upd H x (.ins (C_Before K) dx (putF "line" b []))) x (C_Before K) dx (putF "line" b []) := ⟨Bt.put rfl, upd_same⟩
  generalize upd H x (.ins (C_Before K) dx (putF "line" b [])) = G1 at p1 ⊢
  have nbx : bb ≠ x := by rintro rfl; rw [hx] at hb; cases hb
  refine ⟨_, rfl, bb, kvs, rfl, rd_of (p1.bt _ _ hb nbx), fun bx hbx => ?_⟩
  have p2 := p1.same (same_new (o := .dK kvs) hbx)
  refine ⟨_, rfl, x, _, dx, _, rfl, p2.obj, cl, na_Before_boxes T, lt1000 (by kernel_rfl), ?_⟩
  have p3 : Pre H (upd (upd G1 bx (.dK kvs)) x (.ins (C_Before K) dx (putF "boxes" (.ref bx) (putF "line" b [])))) x (C_Before K) dx (putF "boxes" (.ref bx) (putF "line" b [])) := p2.put
  generalize upd (upd G1 bx (.dK kvs)) x (.ins (C_Before K) dx (putF "boxes" (.ref bx) (putF "line" b []))) = G3 at p3 ⊢
  refine ⟨_, rfl, _, rfl, x, _, dx, _, rfl, p3.obj, cl, na_Before_tally T, lt1000 (by kernel_rfl), ?_⟩
  have p4 : Pre H (upd G3 x (.ins (C_Before K) dx (putF "tally" d (putF "boxes" (.ref bx) (putF "line" b []))))) x (C_Before K) dx (putF "tally" d (putF "boxes" (.ref bx) (putF "line" b []))) := p3.put
  generalize upd G3 x (.ins (C_Before K) dx (putF "tally" d (putF "boxes" (.ref bx) (putF "line" b [])))) = G4 at p4 ⊢
  intro tk htk
  have p5 := p4.same (same_new (o := .dK []) htk)
  refine ⟨_, rfl, x, _, dx, _, rfl, p5.obj, cl, na_Before_taken T, lt1000 (by kernel_rfl), ?_⟩
  exact k1 _ (p5.put).bt
/- Half.becomes: slots 0 self 1 stand -/
theorem sc_Half_becomes : FnScope ["self", "stand"] ["self", "stand"] (defScope s_Half_becomes) := ⟨rfl, rfl, rfl, by decide +kernel, rfl, by decide +kernel, by decide +kernel⟩
theorem ok_Half_becomes (T : Txt K mg) (c_Before : C8.Mak P w K mg base 1 "Before" (C_Before K) (spBefore K) []) : C8.Met P w K mg base 3 (C_Half K) "becomes" (spBecomes K) [] := by
  refine mkMet (f_Half_becomes T) (cl_Half T) (me_Half_becomes T) sc_Half_becomes (fun _ _ _ _ _ _ us hl => match us, hl with | [_, _], _ => rfl) (fun vs H Q E h => ?_) (fun vs H Q E h => ?_)
  · obtain ⟨a, b, rfl, _⟩ := sp2_len h
    rfl
  obtain ⟨a, b, rfl, h⟩ := sp2_len h
  intro cdv A outer s E hr
  have hu := hu_of hr
  obtain ⟨x, dx, mk, l, bx, nx, dn, bf, kvs, r, y1, y2, rfl, hx, hb, rfl, hr', k1⟩ := h
  have cl := cl_Half T
  refine ⟨_, (pss_cons (ps_fld (pv 0) (C8.pe_mk c_Before hr (by omega) rfl (pa_cons (pe_fld (pv 0) rfl) (pa_cons (pe_fld (pv 0) rfl) (pa_cons (pe_fld (pv 0) rfl) pa_nil)))) rfl)
        (pss_cons (ps_fld (pv 0) (C8.pe_gc rfl (k_CHANGED T)) rfl)
        (pss_one (ps_asg (pv 1) (pg_tup rfl (pgs_cons (pg_fld (pv 0)) (pgs_cons (pg_fld (pv 0)) pgs_nil))))))), ?_⟩
  refine ⟨_, rfl, x, _, dx, _, _, rfl, hx, cl, na_Half_line T, l_Half_line, _, rfl, x, _, dx, _, _, rfl, hx, cl, na_Half_boxes T, l_Half_boxes, _, rfl, x, _, dx, _, _, rfl, hx, cl, na_Half_tally T, l_Half_tally, fun xb dxb hxb hdxb hneb => ?_⟩
  have s1 : Same H (upd (upd H dxb (.own xb)) xb (.ins (C_Before K) dxb [])) := fun a o e => by
    rw [upd_ne (ne_of_none e hxb), upd_ne (ne_of_none e hdxb)]
    exact e
  refine ⟨xb, dxb, bx, kvs, rfl, upd_same, rfl, s1 _ _ hb, fun H1 b1 => ⟨rfl, ?_⟩⟩
  have s2 : Same H H1 := fun a o e => b1 _ _ (s1 _ _ e) (ne_of_none e hxb)
  have p1 : Pre H H1 x (C_Half K) dx (A_Half mk l (.ref bx) nx dn bf) := ⟨Bt.of s2, s2 _ _ hx⟩
  refine ⟨_, rfl, x, _, dx, _, rfl, p1.obj, cl, na_Half_before T, len_Half, ?_⟩
  rw [p_Half_before]
  have p2 : Pre H (upd H1 x (.ins (C_Half K) dx (A_Half mk l (.ref bx) nx dn (.ref xb)))) x (C_Half K) dx (A_Half mk l (.ref bx) nx dn (.ref xb)) := p1.put
  generalize upd H1 x (.ins (C_Half K) dx (A_Half mk l (.ref bx) nx dn (.ref xb))) = G2 at p2 ⊢
  refine ⟨_, rfl, x, _, dx, _, rfl, p2.obj, cl, na_Half_make T, len_Half, ?_⟩
  rw [p_Half_make]
  generalize hG3 : upd G2 x _ = G3
  have p3 : Pre H G3 x (C_Half K) dx (A_Half (.int 2) l (.ref bx) nx dn (.ref xb)) := by rw [← hG3]; exact p2.put
  have nr : r ≠ x := by rintro rfl; rw [hx] at hr'; cases hr'
  refine ⟨_, rfl, r, _, rfl, SqT.of (p3.bt _ _ hr' nr), rfl, _, _, rfl, ⟨_, rfl, x, _, dx, _, rfl, p3.obj, cl, na_Half_line T, len_Half, ?_⟩⟩
  rw [p_Half_line]
  generalize hG4 : upd G3 x _ = G4
  have p4 : Pre H G4 x (C_Half K) dx (A_Half (.int 2) y1 (.ref bx) nx dn (.ref xb)) := by rw [← hG4]; exact p3.put
  refine ⟨_, _, rfl, ⟨_, rfl, x, _, dx, _, rfl, p4.obj, cl, na_Half_boxes T, len_Half, rfl, ?_⟩⟩
  exact k1 _ (p4.put).bt
theorem ok_Mixed_stand2 (T : Txt K mg) : C8.Met P w K mg base 1 (C_Mixed K) "stand" (spStand2 K) [] := by
  refine mkMet (f_Mixed_stand T) (cl_Mixed T) (me_Mixed_stand T) sc_Mixed_stand (fun _ _ _ _ _ _ us hl => match us, hl with | [_, _], _ => rfl) (fun vs H Q E h => ?_) (fun vs H Q E h => ?_)
  · obtain ⟨a, b, rfl, _⟩ := sp2_len h
    rfl
  obtain ⟨a, b, rfl, h⟩ := sp2_len h
  intro cdv A outer s E hr
  have hu := hu_of hr
  obtain ⟨mp, h0, ha, dxh, bx, kvs, l, nx, dn, bf, mk, env, rfl, rfl, ⟨dx, o, hp, r0, hk, e1, e4, hval⟩, f1, f3, f4, k1⟩ := h
  refine ⟨_, (pss_one (ps_ret (pe_tup (pa_cons (pe_fld (pe_dget hu (pe_fld (pv 0) rfl) (pv 1) (fun _ _ => rfl)) rfl) (pa_cons (pe_callTy call_dictD rfl (z_dict T) (by decide +kernel) (pa_cons (pe_fld (pe_dget hu (pe_fld (pv 0) rfl) (pv 1) (fun _ _ => rfl)) rfl) pa_nil)) pa_nil))))), ?_⟩
  refine ⟨_, rfl, mp, _, dx, _, _, rfl, e1, cl_Mixed T, na_Mixed_hands T, l_Mixed_hands, _, rfl, hp, .ref ha, rfl, hval ▸ dget_s (rd_of e4), ha, _, dxh, _, _, rfl, f1, cl_Half T, na_Half_line T, l_Half_line,
    _, rfl, mp, _, dx, _, _, rfl, e1, cl_Mixed T, na_Mixed_hands T, l_Mixed_hands, _, rfl, hp, .ref ha, rfl, hval ▸ dget_s (rd_of e4), ha, _, dxh, _, _, rfl, f1, cl_Half T, na_Half_boxes T, l_Half_boxes, bx, kvs, rfl, rd_of f3, fun q hq => ⟨le_size (by show 2 ≤ 100000; decide), fun r hr => ?_⟩⟩
  have s1 : Same H (upd H q (.dK kvs)) := same_new hq
  have s2 : Same (upd H q (.dK kvs)) (upd (upd H q (.dK kvs)) r (.tup [.int l, .ref q])) := same_new hr
  exact k1 _ r q kvs (s1.trans s2) upd_same (s2 _ _ upd_same) (f4.mono (Tk.of (s1.trans s2)))
/- Mixed.change: slots 0 self 1 h 2 half 3 stand -/
theorem sc_Mixed_change : FnScope ["self", "h", "half", "stand"] ["self", "h"] (defScope s_Mixed_change) := ⟨rfl, rfl, rfl, by decide +kernel, rfl, by decide +kernel, by decide +kernel⟩
theorem ok_Mixed_change (T : Txt K mg) (c_brought : C8.Cal P w K mg base 27 "brought" (spBrought K) []) (c_Mixed_stand : C8.Met P w K mg base 1 (C_Mixed K) "stand" (spStand2 K) []) (c_Half_becomes : C8.Met P w K mg base 3 (C_Half K) "becomes" (spBecomes K) []) :
    C8.Met P w K mg base 28 (C_Mixed K) "change" (spChange K) [] := by
  refine mkMet (f_Mixed_change T) (cl_Mixed T) (me_Mixed_change T) sc_Mixed_change (fun _ _ _ _ _ _ us hl => match us, hl with | [_, _], _ => rfl) (fun vs H Q E h => ?_) (fun vs H Q E h => ?_)
  · obtain ⟨a, b, rfl, _⟩ := sp2_len h
    rfl
  obtain ⟨a, b, rfl, h⟩ := sp2_len h
  intro cdv A outer s E hr
  have hu := hu_of hr
  obtain ⟨τ, m, mp, ov, wx, px, f, s0, dx, hp, rp, hk, hd, ha, hs, rfl, rfl, mok, od, ok, ho, e1, e4, hval, hH, he, hline, k1⟩ := h
  obtain ⟨t, dxh, bx, nx, kvs, ns, f1, f2, f3, f4, f5, f6, f7⟩ := hH
  have cM := cl_Mixed T
  have cH := cl_Half T
  refine ⟨_, (pss_cons (ps_set (i := 2) sc_Mixed_change.nd rfl (by first | exact .inl rfl | exact .inr rfl) (pe_dget hu (pe_fld (pv 0) rfl) (pv 1) (fun _ _ => rfl)))
        (pss_cons (ps_if (pt_cmpR op_eq (pe_fld (pv 2) rfl) (C8.pe_gc rfl (k_CHANGED T)) (nomark _)) (pss_one (ps_ret pe_bl)) pss_nil)
        (pss_cons (ps_set (i := 3) sc_Mixed_change.nd rfl (by first | exact .inl rfl | exact .inr rfl) (C8.pe_c c_brought hr (by omega) rfl (pa_cons (pe_fld (pv 0) rfl) (pa_cons (pv 1) (pa_cons (C8.pe_mt c_Mixed_stand hr (by omega) (pv 0) (pa_cons (pv 1) pa_nil)) pa_nil)))))
        (pss_cons (ps_if (pt_cmpR op_isN (pv 3) pe_non (nomark _)) (pss_one (ps_ret pe_bl)) pss_nil)
        (pss_cons (ps_expr (C8.pe_mt c_Half_becomes hr (by omega) (pv 2) (pa_cons (pv 3) pa_nil)))
        (pss_one (ps_ret pe_bl))))))), ?_⟩
  refine ⟨_, rfl, mp, _, dx, _, _, rfl, e1, cM, na_Mixed_hands T, l_Mixed_hands, _, rfl, hp, .ref ha, rfl, hval ▸ dget_s (rd_of e4), ?_⟩
  refine ⟨_, rfl, ha, _, dxh, _, _, rfl, f1, cH, na_Half_make T, l_Half_make, rfl, _, rfl, iteF ?_⟩
  refine ⟨_, rfl, mp, _, dx, _, _, rfl, e1, cM, na_Mixed_over T, l_Mixed_over, _, rfl, _, rfl, mp, dx, _, rfl, e1, n_Mixed_stand, _, rfl, mp, hd.name, ha, dxh, bx, kvs, _, _, _, _, _, hs.env, rfl, rfl, ⟨dx, _, hp, rp, hk, e1, e4, hval⟩, f1, f3, f4, fun H1 sr q kv1 s1 esr eq ikv => ?_⟩
  refine ⟨ov, wx, px, f, s0, m, hd, sr, q, kv1, hs.env, hs.line, rfl, ho.same s1, mok, od, rfl, ok, he, rfl, esr, hline, eq, ikv, fun H2 s2 => ?_, fun H2 r y1 y2 s2 er => ?_⟩
  · exact ⟨_, rfl, rfl, _, rfl, iteT (k1 _ _ (Bt.of (s1.trans s2)))⟩
  · have s12 := s1.trans s2
    refine ⟨_, rfl, rfl, _, rfl, iteF ?_⟩
    exact ⟨_, rfl, ha, dxh, _, rfl, s12 _ _ f1, n_Half_becomes, _, rfl, ha, dxh, _, _, bx, _, _, _, kvs, r, y1, y2, rfl, s12 _ _ f1, s12 _ _ f3, rfl, er, fun H3 b3 => k1 _ _ ((Bt.of s12).trans b3)⟩
end
end SwK
set_option maxHeartbeats 8000000
/-! the builder: feeds, digits, sizes -/
namespace SwK
open PySem PySem.Spec PyProof.Rows L2
def Feed (H : Hp) (fp : Addr) : Prop := ∃ x y, H fp = some (.lst [.int x, .int y]) ∧ 1 ≤ y ∧ y ≤ 2147483646
/-- only the feed changed -/
structure FB (fp : Addr) (H H' : Hp) : Prop where
  bt : Bt (fun a => a = fp) H H'
  fd : Feed H' fp
theorem FB.refl {fp : Addr} {H : Hp} (h : Feed H fp) : FB fp H H := ⟨Bt.of (Same.refl _), h⟩
theorem FB.trans {fp : Addr} {H H1 H2 : Hp} (a : FB fp H H1) (b : FB fp H1 H2) : FB fp H H2 := ⟨a.bt.trans b.bt, b.fd⟩
theorem Feed.same {fp : Addr} {H H' : Hp} (h : Feed H fp) (s : Same H H') : Feed H' fp := by
  obtain ⟨x, y, e, h1, h2⟩ := h
  exact ⟨x, y, s _ _ e, h1, h2⟩
theorem FB.same {fp : Addr} {H H' : Hp} (h : Feed H fp) (s : Same H H') : FB fp H H' := ⟨Bt.of s, h.same s⟩
theorem FB.andS {fp : Addr} {H H1 H2 : Hp} (a : FB fp H H1) (s : Same H1 H2) : FB fp H H2 := a.trans (FB.same a.fd s)
theorem FB.tk {fp : Addr} {H H' : Hp} (h : Feed H fp) (b : FB fp H H') : Tk H H' := b.bt.tk fun a o ea e => by
  have ea : a = fp := ea
  obtain ⟨x, y, e', _⟩ := h
  rw [ea, e'] at e
  cases e
  exact ntL
/-- all others stand -/
theorem FB.ne {fp a : Addr} {H H' : Hp} {o : HO} (b : FB fp H H') (e : H a = some o) (n : a ≠ fp) : H' a = some o := b.bt _ _ e n
/-- a feed that was new -/
theorem FB.new {fp : Addr} {H0 H H' : Hp} (s : Same H0 H) (hn : H0 fp = none) (b : FB fp H H') : Same H0 H' := fun a o e => b.bt _ _ (s _ _ e) (ne_of_none e hn)
/-- lists of tuples are no feeds -/
theorem feed_ne {fp a : Addr} {H : Hp} {xs : List V} (h : Feed H fp) (e : H a = some (.lst xs)) (n : ∀ x ∈ xs, ∀ i, x ≠ .int i) : a ≠ fp := by
  rintro rfl
  obtain ⟨x, y, e', _⟩ := h
  rw [e] at e'
  cases e'
  exact n (.int x) List.mem_cons_self x rfl
theorem iml_noint {H : Hp} {ds : List Da} {xs : List V} (h : ImL H xs ds) (hd : ∀ d ∈ ds, ∀ i, d ≠ .int i) : ∀ x ∈ xs, ∀ i, x ≠ .int i := by
  intro x hx i e
  obtain ⟨j, hj⟩ := List.getElem?_of_mem hx
  obtain ⟨d, h1, h2⟩ := h.get' hj
  subst e
  cases h2
  exact hd _ (List.mem_of_getElem? h1) i rfl
def spFeed (K : PySem.W.Frag) : Sp := sp2 fun a b H Q => ∃ (sp : Addr) (ns : List Int) (k : Nat), a = .ref sp ∧ SqL K H sp (ns.map V.int) ∧ b = .int (k : Nat) ∧ k ≤ 1000 ∧ ∀ H' q, Same H H' → H q = none → Feed H' q → Q (.ref q) H'
def spTake : Sp := sp2 fun a b H Q => ∃ fp many, a = .ref fp ∧ Feed H fp ∧ b = .int many ∧ 1 ≤ many ∧ many ≤ 4294967296 ∧ ∀ H' d, 0 ≤ d → d < many → FB fp H H' → Q (.int d) H'
def spNumber : Sp := sp1 fun a H Q => ∃ fp, a = .ref fp ∧ Feed H fp ∧ ∀ H' d, 0 ≤ d → d < 4294967296 → FB fp H H' → Q (.int d) H'
def sortB (ks : List Kd) (k : Str) : Da := match lookK ks k with
  | some kd => .tup [.str (sortS kd.alt), partsD kd.parts]
  | none => .tup [.str "num", .tup []]
def KsAt (H : Hp) (v : V) (ks : List Kd) : Prop := ∃ l xs, v = .ref l ∧ H l = some (.lst xs) ∧ ImL H xs (ks.map Kd.d)
def spSortB : Sp := sp2 fun a b H Q => ∃ ks k, Im H a (kindsD ks) ∧ b = .str k ∧ ∀ H' r, Same H H' → Im H' (.ref r) (sortB ks k) → Q (.ref r) H'
def spSortL : Sp := sp2 fun a b H Q => ∃ ks k, KsAt H a ks ∧ b = .str k ∧ ∀ H' r, Same H H' → Im H' (.ref r) (sortB ks k) → Q (.ref r) H'
def spSize (n : Nat) : Sp := sp2 fun a b H Q => ∃ ks k m, KsAt H a ks ∧ b = .str k ∧ m < n ∧ LvK ks m k ∧ lookK ks "num" = none ∧ (∀ kd ∈ ks, kd.parts.length ≤ 5) ∧ ∀ H' (z : Int), Same H H' → Q (.int z) H'
/-- the size of a kind's least value -/
def smallN (ks : List Kd) : Nat → Str → Nat
  | 0, _ => 1
  | n + 1, k => match lookK ks k with
    | none => 1
    | some kd => match kd.alt with
      | true => (match kd.parts with
        | [] => 1
        | p :: _ => 1 + smallN ks n p.2)
      | false => 1 + (kd.parts.map fun p => smallN ks n p.2).sum
def spSmall (n : Nat) : Sp := sp2 fun a b H Q => ∃ ks k m, Im H a (kindsD ks) ∧ b = .str k ∧ m < n ∧ m ≤ 4 ∧ LvK ks m k ∧ lookK ks "num" = none ∧ (∀ kd ∈ ks, kd.parts.length ≤ 5) ∧ ∀ H', Same H H' → Q (.int (smallN ks 4 k : Nat)) H'
theorem sqL_same {K : PySem.W.Frag} {H H' : Hp} {p : Addr} {l : List V} (s : Same H H') (h : SqL K H p l) : SqL K H' p l := by
  rcases h with (h | ⟨o, h⟩) | h
  · exact .inl (.inl (s _ _ h))
  · exact .inl (.inr ⟨o, s _ _ h⟩)
  · exact .inr h
section
variable {P : Program} {w : World} {K : PySem.W.Frag} {mg : Str → Option Value} {base : Heap}
/- _law_feed: slots 0 _law_script 1 _law_k 2 _law_cell -/
theorem sc_law_feed : FnScope ["_law_script", "_law_k", "_law_cell"] ["_law_script", "_law_k"] (defScope s_law_feed) := ⟨rfl, rfl, rfl, by decide +kernel, rfl, by decide +kernel, by decide +kernel⟩
theorem ok_law_feed (T : Txt K mg) : C8.Cal P w K mg base 1 "_law_feed" (spFeed K) [] := by
  refine mkCal (k := 0) (f_law_feed T) (g_law_feed T) sc_law_feed (fun _ _ _ _ _ _ us hl => match us, hl with | [_, _], _ => rfl) (fun vs H Q E h => ?_) (fun vs H Q E h => ?_)
  · obtain ⟨a, b, rfl, _⟩ := sp2_len h
    rfl
  obtain ⟨a, b, rfl, sp, ns, k, rfl, hsp, rfl, hk, k1⟩ := sp2_len h
  intro cdv A outer s E hr
  have hu := hu_of hr
  have fin : ∀ (cell x : Int) (H' : Hp), Same H H' → ∀ q, H' q = none → Q (.ref q) (upd H' q (.lst [.int x, .int ((cell % 2147483629 * 48271 + 40692 * (k : Int)) % 2147483646 + 1)])) := fun cell x H' s1 q hq => by
    have h1 := Int.emod_nonneg (cell % 2147483629 * 48271 + 40692 * (k : Int)) (by decide : (2147483646 : Int) ≠ 0)
    have h2 := Int.emod_lt_of_pos (cell % 2147483629 * 48271 + 40692 * (k : Int)) (by decide : (0 : Int) < 2147483646)
    exact k1 _ q (s1.trans (same_new hq)) (new_old s1 hq) ⟨_, _, upd_same, by omega, by omega⟩
  have getI : ∀ {i : Int} (j : Nat), i = (j : Int) → j < ns.length → ∃ z, atI (ns.map V.int) i = some (.int z) := fun j e hj => by
    subst e
    refine ⟨ns[j], atI_nat ?_⟩
    rw [List.getElem?_map, List.getElem?_eq_getElem hj]
    rfl
  have hlen : (ns.map V.int).length = ns.length := List.length_map ..
  have h0 : ∀ {m : Nat}, 0 < m → (0 : Int) < (m : Int) := fun h => by omega
  refine ⟨_, (pss_cons (ps_set (i := 2) sc_law_feed.nd rfl (by first | exact .inl rfl | exact .inr rfl) pe_int)
        (pss_cons (ps_if (pt_cmpR op_lt (pv 1) (pe_callB call_len rfl (z_len T) PySem.boot_len (pa_cons (pv 0) pa_nil)) (nomark _)) (pss_one (ps_set (i := 2) sc_law_feed.nd rfl (by first | exact .inl rfl | exact .inr rfl) (pe_ix ix_list (pv 0) (pv 1) (fun _ _ => rfl)))) pss_nil)
        (pss_cons (ps_if (PW.pt (pw_and (pt_cmpR op_gt (pe_callB call_len rfl (z_len T) PySem.boot_len (pa_cons (pv 0) pa_nil)) pe_int (nomark _)) (pw_and1 (pt_cmpR op_eq (pe_op op_mod (pe_ix ix_list (pv 0) pe_int (fun _ _ => rfl)) pe_int) pe_int (nomark _))))) (pss_one (ps_ret (pe_lst (pa_cons (pv 2) (pa_cons (pe_op op_add (pe_op op_mod (pe_op op_add (pe_op op_mul (pe_op op_mod (pv 2) pe_int) pe_int) (pe_op op_mul pe_int (pv 1))) pe_int) pe_int) pa_nil))))) pss_nil)
        (pss_cons (ps_if (PW.pt (pw_and (pt_cmpR op_ge (pv 1) (pe_callB call_len rfl (z_len T) PySem.boot_len (pa_cons (pv 0) pa_nil)) (nomark _)) (pw_and1 (pt_cmpR op_gt (pe_callB call_len rfl (z_len T) PySem.boot_len (pa_cons (pv 0) pa_nil)) pe_int (nomark _))))) (pss_one (ps_set (i := 2) sc_law_feed.nd rfl (by first | exact .inl rfl | exact .inr rfl) (pe_op op_add (pe_ix ix_list (pv 0) (pe_op op_mod (pv 1) (pe_callB call_len rfl (z_len T) PySem.boot_len (pa_cons (pv 0) pa_nil))) (fun _ _ => rfl)) (pe_op op_mul pe_int (pv 1))))) pss_nil)
        (pss_one (ps_ret (pe_lst (pa_cons pe_int (pa_cons (pe_op op_add (pe_op op_mod (pe_op op_add (pe_op op_mul (pe_op op_mod (pv 2) pe_int) pe_int) (pe_op op_mul pe_int (pv 1))) pe_int) pe_int) pa_nil))))))))), ?_⟩
  refine ⟨_, rfl, _, rfl, _, _, rfl, .inl ⟨_, hsp, rfl⟩, _, _, rfl, rfl, _, rfl, ?_⟩
  rw [hlen]
  by_cases hkl : k < ns.length
  · rw [decide_eq_true (by omega : (k : Int) < (ns.length : Int))]
    obtain ⟨z, hz⟩ := getI k rfl hkl
    obtain ⟨z0, hz0⟩ := getI 0 rfl (by omega : 0 < ns.length)
    refine iteT ⟨_, rfl, _, rfl, sp, _, _, _, rfl, rfl, hsp, hz, ?_⟩
    refine ⟨_, rfl, _, _, rfl, .inl ⟨_, hsp, rfl⟩, _, _, rfl, rfl, _, rfl, ?_⟩
    rw [hlen, decide_eq_true (h0 (by omega : 0 < ns.length))]
    refine iteT ⟨_, rfl, sp, _, _, _, rfl, rfl, hsp, hz0, _, _, rfl, rfl, (by decide : (0 : Int) < 2), rfl, _, rfl, ?_⟩
    by_cases hodd : z0 % 2 = 1
    · rw [decide_eq_true (congrArg V.int hodd)]
      exact iteT ⟨_, rfl, _, rfl, _, _, rfl, rfl, (by decide : (0 : Int) < 2147483629), _, _, rfl, rfl, .inr ⟨by decide, by decide⟩, _, rfl, _, _, rfl, rfl, .inl ⟨by decide, by decide⟩, _, _, rfl, rfl, _, _, rfl, rfl, (by decide : (0 : Int) < 2147483646), _, _, rfl, rfl, le_size (by show 2 ≤ 100000; decide), fun q hq => fin _ _ _ (Same.refl _) q hq⟩
    · rw [decide_eq_false (fun e => hodd (V.int.inj e))]
      refine iteF ⟨_, rfl, _, rfl, _, _, rfl, .inl ⟨_, hsp, rfl⟩, _, _, rfl, rfl, _, rfl, ?_⟩
      rw [hlen, decide_eq_false (by omega : ¬ (ns.length : Int) ≤ (k : Int))]
      exact iteF (iteF ⟨_, rfl, _, _, rfl, rfl, (by decide : (0 : Int) < 2147483629), _, _, rfl, rfl, .inr ⟨by decide, by decide⟩, _, rfl, _, _, rfl, rfl, .inl ⟨by decide, by decide⟩, _, _, rfl, rfl, _, _, rfl, rfl, (by decide : (0 : Int) < 2147483646), _, _, rfl, rfl, le_size (by show 2 ≤ 100000; decide), fun q hq => fin _ _ _ (Same.refl _) q hq⟩)
  · rw [decide_eq_false (by omega : ¬ (k : Int) < (ns.length : Int))]
    refine iteF ?_
    refine ⟨_, rfl, _, _, rfl, .inl ⟨_, hsp, rfl⟩, _, _, rfl, rfl, _, rfl, ?_⟩
    rw [hlen]
    by_cases hn : 0 < ns.length
    · rw [decide_eq_true (h0 hn)]
      obtain ⟨z0, hz0⟩ := getI 0 rfl hn
      refine iteT ⟨_, rfl, sp, _, _, _, rfl, rfl, hsp, hz0, _, _, rfl, rfl, (by decide : (0 : Int) < 2), rfl, _, rfl, ?_⟩
      by_cases hodd : z0 % 2 = 1
      · rw [decide_eq_true (congrArg V.int hodd)]
        exact iteT ⟨_, rfl, _, rfl, _, _, rfl, rfl, (by decide : (0 : Int) < 2147483629), _, _, rfl, rfl, .inr ⟨by decide, by decide⟩, _, rfl, _, _, rfl, rfl, .inl ⟨by decide, by decide⟩, _, _, rfl, rfl, _, _, rfl, rfl, (by decide : (0 : Int) < 2147483646), _, _, rfl, rfl, le_size (by show 2 ≤ 100000; decide), fun q hq => fin _ _ _ (Same.refl _) q hq⟩
      · rw [decide_eq_false (fun e => hodd (V.int.inj e))]
        refine iteF ⟨_, rfl, _, rfl, _, _, rfl, .inl ⟨_, hsp, rfl⟩, _, _, rfl, rfl, _, rfl, ?_⟩
        rw [hlen, decide_eq_true (by omega : (ns.length : Int) ≤ (k : Int))]
        refine iteT ⟨_, rfl, _, _, rfl, .inl ⟨_, hsp, rfl⟩, _, _, rfl, rfl, _, rfl, ?_⟩
        rw [hlen, decide_eq_true (h0 hn)]
        refine iteT ?_
        obtain ⟨z1, hz1⟩ := getI (k % ns.length) (i := (k : Int) % (ns.length : Int)) (by omega) (Nat.mod_lt _ hn)
        refine ⟨_, rfl, _, rfl, _, rfl, _, _, rfl, .inl ⟨_, hsp, rfl⟩, _, _, rfl, rfl, (by rw [hlen]; exact h0 hn), sp, _, _, _, rfl, rfl, hsp, (by rw [hlen]; exact hz1), _, rfl, _, _, rfl, rfl, .inl ⟨by decide, by decide⟩, _, _, rfl, rfl, ?_⟩
        exact ⟨_, rfl, _, _, rfl, rfl, (by decide : (0 : Int) < 2147483629), _, _, rfl, rfl, .inr ⟨by decide, by decide⟩, _, rfl, _, _, rfl, rfl, .inl ⟨by decide, by decide⟩, _, _, rfl, rfl, _, _, rfl, rfl, (by decide : (0 : Int) < 2147483646), _, _, rfl, rfl, le_size (by show 2 ≤ 100000; decide), fun q hq => fin _ _ _ (Same.refl _) q hq⟩
    · rw [decide_eq_false (by omega : ¬ (0 : Int) < (ns.length : Int))]
      refine iteF (iteF ⟨_, rfl, _, rfl, _, _, rfl, .inl ⟨_, hsp, rfl⟩, _, _, rfl, rfl, _, rfl, ?_⟩)
      rw [hlen, decide_eq_true (by omega : (ns.length : Int) ≤ (k : Int))]
      refine iteT ⟨_, rfl, _, _, rfl, .inl ⟨_, hsp, rfl⟩, _, _, rfl, rfl, _, rfl, ?_⟩
      rw [hlen, decide_eq_false (by omega : ¬ (0 : Int) < (ns.length : Int))]
      exact iteF ⟨_, rfl, _, _, rfl, rfl, (by decide : (0 : Int) < 2147483629), _, _, rfl, rfl, .inr ⟨by decide, by decide⟩, _, rfl, _, _, rfl, rfl, .inl ⟨by decide, by decide⟩, _, _, rfl, rfl, _, _, rfl, rfl, (by decide : (0 : Int) < 2147483646), _, _, rfl, rfl, le_size (by show 2 ≤ 100000; decide), fun q hq => fin _ _ _ (Same.refl _) q hq⟩
/- _law_take: slots 0 _law_feed_here 1 _law_many 2 _law_digit 3 _law_one -/
theorem sc_law_take : FnScope ["_law_feed_here", "_law_many", "_law_digit", "_law_one"] ["_law_feed_here", "_law_many"] (defScope s_law_take) := ⟨rfl, rfl, rfl, by decide +kernel, rfl, by decide +kernel, by decide +kernel⟩
theorem ok_law_take (T : Txt K mg) : C8.Cal P w K mg base 1 "_law_take" spTake [] := by
  refine mkCal (f_law_take T) (g_law_take T) sc_law_take (fun _ _ _ _ _ _ us hl => match us, hl with | [_, _], _ => rfl) (fun vs H Q E h => ?_) (fun vs H Q E h => ?_)
  · obtain ⟨a, b, rfl, _⟩ := sp2_len h
    rfl
  obtain ⟨a, b, rfl, h⟩ := sp2_len h
  intro cdv A outer s E hr
  have hu := hu_of hr
  obtain ⟨fp, many, rfl, ⟨x, y, hf, hy1, hy2⟩, rfl, hm1, hm2, k1⟩ := h
  refine ⟨_, (pss_cons (ps_if (pt_cmpR op_gt (pe_ix ix_list (pv 0) pe_int (fun _ _ => rfl)) pe_int (nomark _)) (pss_cons (ps_set (i := 2) sc_law_take.nd rfl (by first | exact .inl rfl | exact .inr rfl) (pe_op op_mod (pe_ix ix_list (pv 0) pe_int (fun _ _ => rfl)) (pv 1)))
        (pss_cons (ps_asg (pe_op op_fdivW (pe_ix ix_list (pv 0) pe_int (fun _ _ => rfl)) (pv 1)) (pg_sub (pv 0) pe_int set_list))
        (pss_one (ps_ret (pv 2))))) pss_nil)
        (pss_cons (ps_set (i := 3) sc_law_take.nd rfl (by first | exact .inl rfl | exact .inr rfl) (pe_op op_mod (pe_op op_mul (pe_ix ix_list (pv 0) pe_int (fun _ _ => rfl)) pe_int) pe_int))
        (pss_cons (ps_asg (pe_op op_add (pe_op op_mod (pe_op op_add (pe_op op_mul (pv 3) pe_int) pe_int) pe_int) pe_int) (pg_sub (pv 0) pe_int set_list))
        (pss_one (ps_ret (pe_op op_mod (pe_op op_fdiv (pe_op op_add (pe_op op_mul (pv 3) pe_int) (pe_ix ix_list (pv 0) pe_int (fun _ _ => rfl))) pe_int) (pv 1))))))), ?_⟩
  have hpos : (0 : Int) < many := by omega
  refine ⟨_, rfl, fp, _, _, _, rfl, rfl, SqL.of hf, at0, _, _, rfl, rfl, _, rfl, ?_⟩
  by_cases hx : 0 < x
  · rw [decide_eq_true hx]
    refine iteT ⟨_, rfl, fp, _, _, _, rfl, rfl, SqL.of hf, at0, _, rfl, _, _, rfl, rfl, hpos, ?_⟩
    refine ⟨_, rfl, fp, _, _, _, rfl, rfl, SqL.of hf, at0, _, rfl, _, _, rfl, rfl, wide_div (b := 33) hpos (by omega) (by decide) (by decide), _, rfl, fp, _, 0, 0, rfl, rfl, hf, rfl, ?_⟩
    exact ⟨_, rfl, k1 _ _ (Int.emod_nonneg _ (by omega)) (Int.emod_lt_of_pos _ hpos) ⟨Bt.put rfl, _, _, upd_same, hy1, hy2⟩⟩
  · rw [decide_eq_false hx]
    refine iteF ?_
    refine ⟨_, rfl, fp, _, _, _, rfl, rfl, SqL.of hf, at1, _, _, rfl, rfl, .inr ⟨by decide, by decide⟩, _, _, rfl, rfl, (by decide : (0 : Int) < 2147483647), ?_⟩
    have o1 := Int.emod_nonneg (y * 69621) (by decide : (2147483647 : Int) ≠ 0)
    have o2 := Int.emod_lt_of_pos (y * 69621) (by decide : (0 : Int) < 2147483647)
    refine ⟨_, rfl, _, _, rfl, rfl, .inr ⟨by decide, by decide⟩, _, _, rfl, rfl, _, _, rfl, rfl, (by decide : (0 : Int) < 2147483646), _, _, rfl, rfl, _, rfl, fp, _, 1, 1, rfl, rfl, hf, rfl, ?_⟩
    have y1 := Int.emod_nonneg (y * 69621 % 2147483647 * 48271 + 30103) (by decide : (2147483646 : Int) ≠ 0)
    have y2 := Int.emod_lt_of_pos (y * 69621 % 2147483647 * 48271 + 30103) (by decide : (0 : Int) < 2147483646)
    have e2 : upd H fp (.lst ([V.int x, V.int y].set 1 (V.int ((y * 69621 % 2147483647 * 48271 + 30103) % 2147483646 + 1)))) fp = some (.lst [.int x, .int ((y * 69621 % 2147483647 * 48271 + 30103) % 2147483646 + 1)]) := upd_same
    refine ⟨_, rfl, _, _, rfl, rfl, .inr ⟨by decide, by decide⟩, _, rfl, fp, _, _, _, rfl, rfl, SqL.of e2, at1, _, _, rfl, rfl, _, _, rfl, rfl, ⟨by decide, by decide⟩, _, rfl, _, _, rfl, rfl, hpos, ?_⟩
    exact k1 _ _ (Int.emod_nonneg _ (by omega)) (Int.emod_lt_of_pos _ hpos) ⟨Bt.put rfl, _, _, e2, by omega, by omega⟩
/- _law_number: slots 0 _law_feed_here 1 _law_form -/
theorem sc_law_number : FnScope ["_law_feed_here", "_law_form"] ["_law_feed_here"] (defScope s_law_number) := ⟨rfl, rfl, rfl, by decide +kernel, rfl, by decide +kernel, by decide +kernel⟩
theorem ok_law_number (T : Txt K mg) (c_law_take : C8.Cal P w K mg base 1 "_law_take" spTake []) : C8.Cal P w K mg base 2 "_law_number" spNumber [] := by
  refine mkCal (f_law_number T) (g_law_number T) sc_law_number (fun _ _ _ _ _ _ us hl => match us, hl with | [_], _ => rfl) (fun vs H Q E h => ?_) (fun vs H Q E h => ?_)
  · obtain ⟨a, rfl, _⟩ := sp1_len h
    rfl
  obtain ⟨a, rfl, h⟩ := sp1_len h
  intro cdv A outer s E hr
  have hu := hu_of hr
  obtain ⟨fp, rfl, hf, k1⟩ := h
  refine ⟨_, (pss_cons (ps_set (i := 1) sc_law_number.nd rfl (by first | exact .inl rfl | exact .inr rfl) (C8.pe_c c_law_take hr (by omega) rfl (pa_cons (pv 0) (pa_cons pe_int pa_nil))))
        (pss_cons (ps_if (pt_cmpR op_lt (pv 1) pe_int (nomark _)) (pss_one (ps_ret (C8.pe_c c_law_take hr (by omega) rfl (pa_cons (pv 0) (pa_cons pe_int pa_nil))))) pss_nil)
        (pss_cons (ps_if (pt_cmpR op_eq (pv 1) pe_int (nomark _)) (pss_one (ps_ret (pe_op op_sub (pe_op op_sub (pe_op op_pow pe_int pe_int) pe_int) (C8.pe_c c_law_take hr (by omega) rfl (pa_cons (pv 0) (pa_cons pe_int pa_nil)))))) pss_nil)
        (pss_one (ps_ret (C8.pe_c c_law_take hr (by omega) rfl (pa_cons (pv 0) (pa_cons (pe_op op_pow pe_int pe_int) pa_nil)))))))), ?_⟩
  refine ⟨_, rfl, fp, 4, rfl, hf, rfl, by decide, by decide, fun H1 d h1 h2 b1 => ?_⟩
  refine ⟨_, rfl, _, _, rfl, rfl, _, rfl, ?_⟩
  by_cases q : d < 2
  · rw [decide_eq_true q]
    exact iteT ⟨_, rfl, fp, 6, rfl, b1.fd, rfl, by decide, by decide, fun H2 d2 h3 h4 b2 => k1 _ _ h3 (by omega) (b1.trans b2)⟩
  rw [decide_eq_false q]
  refine iteF ⟨_, rfl, rfl, _, rfl, ?_⟩
  by_cases q2 : d = 2
  · rw [decide_eq_true (congrArg V.int q2)]
    refine iteT ⟨_, _, rfl, rfl, ⟨by decide, by decide, by decide⟩, _, _, rfl, rfl, _, rfl, fp, 6, rfl, b1.fd, rfl, by decide, by decide, fun H2 d2 h3 h4 b2 => ⟨_, _, rfl, rfl, k1 _ _ ?_ ?_ (b1.trans b2)⟩⟩
    · have : (2 : Int) ^ (32 : Int).toNat = 4294967296 := by decide
      rw [this]
      omega
    · have : (2 : Int) ^ (32 : Int).toNat = 4294967296 := by decide
      rw [this]
      omega
  · rw [decide_eq_false (fun e => q2 (V.int.inj e))]
    exact iteF ⟨_, rfl, _, _, rfl, rfl, ⟨by decide, by decide, by decide⟩, fp, 4294967296, rfl, b1.fd, rfl, by decide, by decide, fun H2 d2 h3 h4 b2 => k1 _ _ h3 h4 (b1.trans b2)⟩
end
end SwK
set_option maxHeartbeats 8000000
/-! the builder: sizes of kinds -/
namespace SwK
open PySem PySem.Spec PyProof.Rows L2
theorem lookK_cons (kd : Kd) (ks : List Kd) (k : Str) : lookK (kd :: ks) k = if kd.name = k then some kd else lookK ks k := by
  unfold lookK
  rw [List.find?_cons]
  by_cases e : kd.name = k
  · rw [decide_eq_true e, if_pos e]
  · rw [decide_eq_false e, if_neg e]
theorem smallN_num {ks : List Kd} (hn : lookK ks "num" = none) : ∀ j, smallN ks j "num" = 1
  | 0 => rfl
  | j + 1 => by
    show (match lookK ks "num" with | none => 1 | some kd => _) = 1
    rw [hn]
theorem smallN_look {ks : List Kd} {k : Str} {kd : Kd} (h : lookK ks k = some kd) (j : Nat) : smallN ks (j + 1) k = (match kd.alt with | true => (match kd.parts with | [] => 1 | p :: _ => 1 + smallN ks j p.2) | false => 1 + (kd.parts.map fun p => smallN ks j p.2).sum) := by
  show (match lookK ks k with | none => 1 | some kd => _) = _
  rw [h] <;> rfl
theorem smallN_st {ks : List Kd} (hn : lookK ks "num" = none) : ∀ {m j : Nat} {k : Str}, LvK ks m k → m ≤ j → smallN ks j k = smallN ks m k
  | 0, j, k, h, _ => by
    have e : k = "num" := h
    rw [e, smallN_num hn, smallN_num hn]
  | m + 1, 0, _, _, h => absurd h (Nat.not_succ_le_zero m)
  | m + 1, j + 1, k, h, hj => by
    rcases h with e | ⟨kd, h1, _, h3⟩
    · rw [e, smallN_num hn, smallN_num hn]
    · rw [smallN_look h1, smallN_look h1]
      cases kd.alt with
      | true =>
        cases hp : kd.parts with
        | nil => rfl
        | cons p r =>
          show 1 + smallN ks j p.2 = 1 + smallN ks m p.2
          rw [smallN_st hn (h3 p (by rw [hp]; exact List.mem_cons_self)) (Nat.le_of_succ_le_succ hj)]
      | false =>
        show 1 + (kd.parts.map fun p => smallN ks j p.2).sum = 1 + (kd.parts.map fun p => smallN ks m p.2).sum
        rw [List.map_congr_left fun p hp => smallN_st hn (h3 p hp) (Nat.le_of_succ_le_succ hj)]
/-- at fuel 4 -/
theorem small_alt {ks : List Kd} (hn : lookK ks "num" = none) {m : Nat} (hm : m ≤ 3) {k : Str} {kd : Kd} (h : lookK ks k = some kd) (ha : kd.alt = true) {p : Str × Str} {r : List (Str × Str)} (hp : kd.parts = p :: r) (l : LvK ks m p.2) : smallN ks 4 k = 1 + smallN ks 4 p.2 := by
  rw [smallN_look h, ha, hp]
  show 1 + smallN ks 3 p.2 = _
  rw [smallN_st hn l hm, smallN_st hn l (show m ≤ 4 by omega)]
theorem small_rec {ks : List Kd} (hn : lookK ks "num" = none) {m : Nat} (hm : m ≤ 3) {k : Str} {kd : Kd} (h : lookK ks k = some kd) (ha : kd.alt = false) (l : ∀ p ∈ kd.parts, LvK ks m p.2) : smallN ks 4 k = 1 + (kd.parts.map fun p => smallN ks 4 p.2).sum := by
  rw [smallN_look h, ha]
  show 1 + (kd.parts.map fun p => smallN ks 3 p.2).sum = _
  rw [List.map_congr_left fun p hp => (smallN_st hn (l p hp) hm).trans (smallN_st hn (l p hp) (by omega : m ≤ 4)).symm]
theorem ints_sum {l : List Nat} : (l.map fun n => ((n : Nat) : Int)).sum = ((l.sum : Nat) : Int) := by
  induction l with
  | nil => rfl
  | cons a l ih =>
    rw [List.map_cons, List.sum_cons, List.sum_cons, ih]
    omega
section
variable {P : Program} {w : World} {K : PySem.W.Frag} {mg : Str → Option Value} {base : Heap}
/- _law_sort_of: slots 0 _law_kinds_here 1 _law_kind 2 _law_name 3 _law_sort 4 _law_parts_here -/
theorem sc_law_sort_of : FnScope ["_law_kinds_here", "_law_kind", "_law_name", "_law_sort", "_law_parts_here"] ["_law_kinds_here", "_law_kind"] (defScope s_law_sort_of) := ⟨rfl, rfl, rfl, by decide +kernel, rfl, by decide +kernel, by decide +kernel⟩
theorem ok_law_sort_of (T : Txt K mg) : C8.Cal P w K mg base 1 "_law_sort_of" spSortB [] := by
  refine mkCal (f_law_sort_of T) (g_law_sort_of T) sc_law_sort_of (fun _ _ _ _ _ _ us hl => match us, hl with | [_, _], _ => rfl) (fun vs H Q E h => ?_) (fun vs H Q E h => ?_)
  · obtain ⟨a, b, rfl, _⟩ := sp2_len h
    rfl
  obtain ⟨a, b, rfl, h⟩ := sp2_len h
  intro cdv A outer s E hr
  have hu := hu_of hr
  obtain ⟨ks, k, h1, rfl, k1⟩ := h
  obtain ⟨ka, kxs, rfl, ek, ik⟩ := im_tup h1
  refine ⟨_, (pss_cons (ps_for PassesOwn.never rfl (pi_tup (pv 0)) (pg_tup rfl (pgs_cons (pg_name (i := 2) sc_law_sort_of.nd rfl (by first | exact .inl rfl | exact .inr rfl)) (pgs_cons (pg_name (i := 3) sc_law_sort_of.nd rfl (by first | exact .inl rfl | exact .inr rfl)) (pgs_cons (pg_name (i := 4) sc_law_sort_of.nd rfl (by first | exact .inl rfl | exact .inr rfl)) pgs_nil)))) (pss_one (ps_if (pt_cmpR op_eq (pv 2) (pv 1) (nomark _)) (pss_one (ps_ret (pe_tup (pa_cons (pv 3) (pa_cons (pv 4) pa_nil))))) pss_nil)))
        (pss_one (ps_ret (pe_tup (pa_cons pe_str (pa_cons (pe_tup pa_nil) pa_nil)))))), ?_⟩
  refine ⟨_, rfl, ka, rfl, ⟨_, SqT.of ek⟩, for_tup (xs := kxs) (fun i σ H' => H' = H ∧ (∃ o2 o3 o4, σ = [some (.ref ka), some (.str k), o2, o3, o4]) ∧ lookK (ks.drop i) k = lookK ks k) ⟨rfl, ⟨_, _, _, rfl⟩, rfl⟩ (fun i σ H' _ q => by rw [q.1]; exact SqT.of ek) ?_ ?_⟩
  · rintro i x σ H' hx ⟨rfl, ⟨o2, o3, o4, rfl⟩, hf⟩
    obtain ⟨kd, hk, ix⟩ := iml_map ik hx
    obtain ⟨xa, x1, x2, x3, rfl, ex, j1, j2, j3⟩ := im3 ix
    cases im_str j1
    have hd : ks.drop i = kd :: ks.drop (i + 1) := by
      obtain ⟨hi, e⟩ := List.getElem?_eq_some_iff.mp hk
      rw [← e]
      exact List.drop_eq_getElem_cons hi
    rw [hd, lookK_cons] at hf
    refine ⟨xa, _, rfl, SqT.of ex, rfl, _, _, rfl, _, _, rfl, _, _, rfl, rfl, ?_⟩
    refine ⟨_, rfl, _, rfl, rfl, _, rfl, ?_⟩
    by_cases e : kd.name = k
    · rw [if_pos e] at hf
      rw [e, strT]
      refine iteT ⟨_, rfl, _, rfl, le_size (by show 2 ≤ 100000; decide), fun r hr => ?_⟩
      refine k1 _ r (same_new hr) ?_
      unfold sortB
      rw [← hf]
      exact im_new hr (.cons j2 (.cons j3 .nil))
    · rw [if_neg e] at hf
      rw [strF e]
      exact iteF ⟨rfl, ⟨_, _, _, rfl⟩, hf⟩
  · rintro σ H' ⟨rfl, ⟨o2, o3, o4, rfl⟩, hf⟩
    rw [ik.length, List.length_map, List.drop_length] at hf
    have hf : lookK ks k = none := hf.symm
    refine ⟨le_size (by show 0 ≤ 100000; decide), fun t ht => ⟨le_size (by show 2 ≤ 100000; decide), fun r hr => ?_⟩⟩
    refine k1 _ r ((same_new ht).trans (same_new hr)) ?_
    unfold sortB
    rw [hf]
    exact im_new hr (.cons (.str _) (.cons (im_new ht .nil) .nil))
theorem ok_law_sort_ofL (T : Txt K mg) : C8.Cal P w K mg base 1 "_law_sort_of" spSortL [] := by
  refine mkCal (f_law_sort_of T) (g_law_sort_of T) sc_law_sort_of (fun _ _ _ _ _ _ us hl => match us, hl with | [_, _], _ => rfl) (fun vs H Q E h => ?_) (fun vs H Q E h => ?_)
  · obtain ⟨a, b, rfl, _⟩ := sp2_len h
    rfl
  obtain ⟨a, b, rfl, h⟩ := sp2_len h
  intro cdv A outer s E hr
  have hu := hu_of hr
  obtain ⟨ks, k, ⟨ka, kxs, rfl, ek, ik⟩, rfl, k1⟩ := h
  refine ⟨_, (pss_cons (ps_for PassesOwn.never rfl (pi_list (pv 0)) (pg_tup rfl (pgs_cons (pg_name (i := 2) sc_law_sort_of.nd rfl (by first | exact .inl rfl | exact .inr rfl)) (pgs_cons (pg_name (i := 3) sc_law_sort_of.nd rfl (by first | exact .inl rfl | exact .inr rfl)) (pgs_cons (pg_name (i := 4) sc_law_sort_of.nd rfl (by first | exact .inl rfl | exact .inr rfl)) pgs_nil)))) (pss_one (ps_if (pt_cmpR op_eq (pv 2) (pv 1) (nomark _)) (pss_one (ps_ret (pe_tup (pa_cons (pv 3) (pa_cons (pv 4) pa_nil))))) pss_nil)))
        (pss_one (ps_ret (pe_tup (pa_cons pe_str (pa_cons (pe_tup pa_nil) pa_nil)))))), ?_⟩
  refine ⟨_, rfl, ka, rfl, ⟨_, SqL.of ek⟩, for_list (xs := kxs) (fun i σ H' => H' = H ∧ (∃ o2 o3 o4, σ = [some (.ref ka), some (.str k), o2, o3, o4]) ∧ lookK (ks.drop i) k = lookK ks k) ⟨rfl, ⟨_, _, _, rfl⟩, rfl⟩ (fun i σ H' _ q => by rw [q.1]; exact SqL.of ek) ?_ ?_⟩
  · rintro i x σ H' hx ⟨rfl, ⟨o2, o3, o4, rfl⟩, hf⟩
    obtain ⟨kd, hk, ix⟩ := iml_map ik hx
    obtain ⟨xa, x1, x2, x3, rfl, ex, j1, j2, j3⟩ := im3 ix
    cases im_str j1
    have hd : ks.drop i = kd :: ks.drop (i + 1) := by
      obtain ⟨hi, e⟩ := List.getElem?_eq_some_iff.mp hk
      rw [← e]
      exact List.drop_eq_getElem_cons hi
    rw [hd, lookK_cons] at hf
    refine ⟨xa, _, rfl, SqT.of ex, rfl, _, _, rfl, _, _, rfl, _, _, rfl, rfl, ?_⟩
    refine ⟨_, rfl, _, rfl, rfl, _, rfl, ?_⟩
    by_cases e : kd.name = k
    · rw [if_pos e] at hf
      rw [e, strT]
      refine iteT ⟨_, rfl, _, rfl, le_size (by show 2 ≤ 100000; decide), fun r hr => ?_⟩
      refine k1 _ r (same_new hr) ?_
      unfold sortB
      rw [← hf]
      exact im_new hr (.cons j2 (.cons j3 .nil))
    · rw [if_neg e] at hf
      rw [strF e]
      exact iteF ⟨rfl, ⟨_, _, _, rfl⟩, hf⟩
  · rintro σ H' ⟨rfl, ⟨o2, o3, o4, rfl⟩, hf⟩
    rw [ik.length, List.length_map, List.drop_length] at hf
    have hf : lookK ks k = none := hf.symm
    refine ⟨le_size (by show 0 ≤ 100000; decide), fun t ht => ⟨le_size (by show 2 ≤ 100000; decide), fun r hr => ?_⟩⟩
    refine k1 _ r ((same_new ht).trans (same_new hr)) ?_
    unfold sortB
    rw [hf]
    exact im_new hr (.cons (.str _) (.cons (im_new ht .nil) .nil))
/- _law_size: slots 0 _law_kinds_here 1 _law_kind 2 _law_sort 3 _law_parts_here 4 _law_sizes 5 _law_name 6 _law_part -/
theorem sc_law_size : FnScope ["_law_kinds_here", "_law_kind", "_law_sort", "_law_parts_here", "_law_sizes", "_law_name", "_law_part"] ["_law_kinds_here", "_law_kind"] (defScope s_law_size) := ⟨rfl, rfl, rfl, by decide +kernel, rfl, by decide +kernel, by decide +kernel⟩
theorem ok_law_size (T : Txt K mg) (c_law_sort_ofL : C8.Cal P w K mg base 1 "_law_sort_of" spSortL []) : ∀ n : Nat, C8.Cal P w K mg base (n + 2) "_law_size" (spSize n) []
  | 0 => by
    refine mkCal (k := 1) (f_law_size T) (g_law_size T) sc_law_size (fun _ _ _ _ _ _ us hl => match us, hl with | [_, _], _ => rfl) (fun vs H Q E h => ?_) (fun vs H Q E h => ?_)
    · obtain ⟨a, b, rfl, _⟩ := sp2_len h
      rfl
    · obtain ⟨a, b, rfl, ks, k, m, _, _, hm, _⟩ := sp2_len h
      exact absurd hm (Nat.not_lt_zero m)
  | n + 1 => by
    have c_law_size := ok_law_size T c_law_sort_ofL n
    show C8.Cal P w K mg base ((n + 2) + 1) "_law_size" (spSize (n + 1)) []
    refine mkCal (f_law_size T) (g_law_size T) sc_law_size (fun _ _ _ _ _ _ us hl => match us, hl with | [_, _], _ => rfl) (fun vs H Q E h => ?_) (fun vs H Q E h => ?_)
    · obtain ⟨a, b, rfl, _⟩ := sp2_len h
      rfl
    obtain ⟨a, b, rfl, h⟩ := sp2_len h
    intro cdv A outer s E hr
    have hu := hu_of hr
    obtain ⟨ks, k, m, hks, rfl, hm, hl, hn, hf, k1⟩ := h
    refine ⟨_, (pss_cons (ps_asg (C8.pe_c c_law_sort_ofL hr (by omega) rfl (pa_cons (pv 0) (pa_cons (pv 1) pa_nil))) (pg_tup rfl (pgs_cons (pg_name (i := 2) sc_law_size.nd rfl (by first | exact .inl rfl | exact .inr rfl)) (pgs_cons (pg_name (i := 3) sc_law_size.nd rfl (by first | exact .inl rfl | exact .inr rfl)) pgs_nil))))
        (pss_cons (ps_setLc (i := 4) (own := [("_law_name", 5), ("_law_part", 6)]) rfl sc_law_size.nd rfl rfl (sw_true rfl rfl rfl (by decide +kernel)) (pi_tup (pv 3)) (blkOk_by (N := ["_law_kinds_here", "_law_kind", "_law_sort", "_law_parts_here", "_law_sizes", "_law_name", "_law_part"]) (sc := defScope s_law_size) (by decide +kernel)) (fun _ _ _ _ _ => (pgT (K := K) (n := 2) rfl rfl (pgs_cons (pg_name (i := 5) sc_law_size.nd rfl (by first | exact .inl rfl | exact .inr rfl)) (pgs_cons (pg_name (i := 6) sc_law_size.nd rfl (by first | exact .inl rfl | exact .inr rfl)) pgs_nil)))) (fun _ _ _ _ _ => pts_nil) (fun _ _ _ _ _ => (C8.pe_c c_law_size hr (by omega) rfl (pa_cons (pv 0) (pa_cons (pv 6) pa_nil)))))
        (pss_cons (ps_if (pt_cmpR op_eq (pv 2) pe_str (nomark _)) (pss_one (ps_ret (pe_op op_add pe_int (pe_callB (cr_max rfl) rfl (z_max T) (by decide +kernel) (pa_cons (pv 4) pa_nil))))) pss_nil)
        (pss_one (ps_ret (pe_op op_add pe_int (pe_callB (cr_sum rfl) rfl (z_sum T) (by decide +kernel) (pa_cons (pv 4) pa_nil)))))))), ?_⟩
    refine ⟨_, rfl, _, rfl, ks, k, hks, rfl, fun H1 r s1 ir => ?_⟩
    -- the sort and the parts
    have key : ∃ q ra so pa pxs ps, V.ref r = V.ref q ∧ H1 q = some (.tup [.str so, .ref pa]) ∧ SqT K H1 pa pxs ∧ ImL H1 pxs (ps.map pairD) ∧ ps.length ≤ 5 ∧ (so = "alt" → ps ≠ []) ∧ (∀ p ∈ ps, ∃ m', m' < n ∧ LvK ks m' p.2) ∧ ra = (0 : Nat) := by
      unfold sortB at ir
      cases e : lookK ks k with
      | none =>
        rw [e] at ir
        obtain ⟨q, x1, x2, z, eq, j1, j2⟩ := im2 ir
        cases im_str j1
        obtain ⟨pa, pxs, rfl, ep, ip⟩ := im_tup j2
        exact ⟨q, 0, _, pa, pxs, [], z, eq, SqT.of ep, ip, Nat.zero_le _, (fun z => absurd z (by decide +kernel)), (fun p hp => by cases hp), rfl⟩
      | some kd =>
        rw [e] at ir
        obtain ⟨q, x1, x2, z, eq, j1, j2⟩ := im2 ir
        cases im_str j1
        obtain ⟨pa, po, pxs, rfl, ep, _, ip⟩ := im_pt j2
        cases m with
        | zero =>
          have : k = "num" := hl
          rw [this, hn] at e
          cases e
        | succ m' =>
          rcases hl with z' | ⟨kd', e', l2, l3⟩
          · rw [z', hn] at e
            cases e
          · rw [e] at e'
            cases e'
            refine ⟨q, 0, _, pa, pxs, kd.parts, z, eq, sqT_frz ep, ip, hf kd (lookK_mem e).1, fun z => l2 ?_, fun p hp => ⟨m', by omega, l3 p hp⟩, rfl⟩
            cases ha : kd.alt with
            | true => rfl
            | false =>
              rw [ha] at z
              exact absurd z (show ¬ ("rec" : Str) = "alt" by decide +kernel)
    obtain ⟨q, _, so, pa, pxs, ps, z, eq, ep, ip, hpl, hne, hlv, _⟩ := key
    cases z
    have hxl : pxs.length = ps.length := by rw [ip.length, List.length_map]
    have sqt : ∀ {H' : Hp}, Same H1 H' → SqT K H' pa pxs := fun s => by
      rcases ep with (h | ⟨o, h⟩) | h
      · exact .inl (.inl (s _ _ h))
      · exact .inl (.inr ⟨o, s _ _ h⟩)
      · exact .inr h
    obtain ⟨kl, kxs, hka, ek, ik⟩ := hks
    subst hka
    refine ⟨r, _, rfl, SqT.of eq, rfl, _, _, rfl, _, _, rfl, rfl, ?_⟩
    refine ⟨_, rfl, pa, rfl, ⟨_, ep⟩, fun D hD => lc_tup (K := K) (a := pa) (xs := pxs) (fun i H' => Same H1 H' ∧ ∃ zs : List Int, H' D = some (.lst (zs.map V.int)) ∧ zs.length = i) ⟨same_new hD, [], upd_same, rfl⟩ (fun i H' _ q => sqt q.1) (fun i x H' hx q => ?_) (fun H' q => ?_)⟩
    · obtain ⟨t1, zs, hacc, hzl⟩ := q
      obtain ⟨pp, hp, ix⟩ := iml_map ip hx
      obtain ⟨qa, y1, y2, rfl, eqa, i1, i2⟩ := im2 (ix.mono (Tk.of t1))
      cases im_str i1
      cases im_str i2
      obtain ⟨m', hm', hlm⟩ := hlv pp (List.mem_of_getElem? hp)
      have hi : i < ps.length := (List.getElem?_eq_some_iff.mp hp).1
      refine ⟨qa, _, rfl, SqT.of eqa, rfl, _, _, rfl, _, _, rfl, rfl, rfl, lcY (iteT ?_)⟩
      refine ⟨_, rfl, _, rfl, ks, pp.2, m', ⟨kl, kxs, rfl, t1 _ _ (s1 _ _ ek), ik.mono (Tk.of (s1.trans t1))⟩, rfl, hm', hlm, hn, hf, fun H2 z t2 => ?_⟩
      refine ⟨_, t2 _ _ hacc, ?_, same_put (t1.trans t2) hD, zs ++ [z], ?_, by rw [List.length_append, hzl]; rfl⟩
      · rw [List.length_map]
        exact lt_size (by omega)
      · rw [upd_same, List.map_append]
        rfl
    · obtain ⟨t1, zs, hacc, hzl⟩ := q
      refine ⟨_, rfl, rfl, _, rfl, ?_⟩
      by_cases e : so = "alt"
      · rw [e, strT]
        refine iteT ⟨_, rfl, D, zs, rfl, SqL.of hacc, ?_, fun mx _ _ => ⟨_, _, rfl, rfl, k1 _ _ (s1.trans t1)⟩⟩
        have := List.length_pos_iff.mpr (hne e)
        omega
      · rw [strF e]
        exact iteF ⟨_, rfl, D, zs, rfl, SqL.of hacc, _, _, rfl, rfl, k1 _ _ (s1.trans t1)⟩
/- _law_small: slots 0 _law_kinds_here 1 _law_kind 2 _law_sort 3 _law_parts_here 4 _law_name 5 _law_part -/
theorem sc_law_small : FnScope ["_law_kinds_here", "_law_kind", "_law_sort", "_law_parts_here", "_law_name", "_law_part"] ["_law_kinds_here", "_law_kind"] (defScope s_law_small) := ⟨rfl, rfl, rfl, by decide +kernel, rfl, by decide +kernel, by decide +kernel⟩
theorem ok_law_small (T : Txt K mg) (c_law_sort_of : C8.Cal P w K mg base 1 "_law_sort_of" spSortB []) : ∀ n : Nat, C8.Cal P w K mg base (n + 2) "_law_small" (spSmall n) []
  | 0 => by
    refine mkCal (k := 1) (f_law_small T) (g_law_small T) sc_law_small (fun _ _ _ _ _ _ us hl => match us, hl with | [_, _], _ => rfl) (fun vs H Q E h => ?_) (fun vs H Q E h => ?_)
    · obtain ⟨a, b, rfl, _⟩ := sp2_len h
      rfl
    · obtain ⟨a, b, rfl, ks, k, m, _, _, hm, _⟩ := sp2_len h
      exact absurd hm (Nat.not_lt_zero m)
  | n + 1 => by
    have c_law_small := ok_law_small T c_law_sort_of n
    show C8.Cal P w K mg base ((n + 2) + 1) "_law_small" (spSmall (n + 1)) []
    refine mkCal (f_law_small T) (g_law_small T) sc_law_small (fun _ _ _ _ _ _ us hl => match us, hl with | [_, _], _ => rfl) (fun vs H Q E h => ?_) (fun vs H Q E h => ?_)
    · obtain ⟨a, b, rfl, _⟩ := sp2_len h
      rfl
    obtain ⟨a, b, rfl, h⟩ := sp2_len h
    intro cdv A outer s E hr
    have hu := hu_of hr
    obtain ⟨ks, k, m, hks, rfl, hm, hm4, hl, hn, hf, k1⟩ := h
    refine ⟨_, (pss_cons (ps_asg (C8.pe_c c_law_sort_of hr (by omega) rfl (pa_cons (pv 0) (pa_cons (pv 1) pa_nil))) (pg_tup rfl (pgs_cons (pg_name (i := 2) sc_law_small.nd rfl (by first | exact .inl rfl | exact .inr rfl)) (pgs_cons (pg_name (i := 3) sc_law_small.nd rfl (by first | exact .inl rfl | exact .inr rfl)) pgs_nil))))
        (pss_cons (ps_if (pt_cmpR op_eq (pv 2) pe_str (nomark _)) (pss_one (ps_ret (pe_op op_add pe_int (C8.pe_c c_law_small hr (by omega) rfl (pa_cons (pv 0) (pa_cons (pe_ix ix_tup (pe_ix ix_tup (pv 3) pe_int (fun _ _ => rfl)) pe_int (fun _ _ => rfl)) pa_nil)))))) pss_nil)
        (pss_one (ps_ret (pe_op op_add pe_int (pe_callB (cr_sum rfl) rfl (z_sum T) (by decide +kernel) (pa_cons (pe_lc (own := [("_law_name", 4), ("_law_part", 5)]) rfl sc_law_small.nd (pi_tup (pv 3)) (blkOk_by (N := ["_law_kinds_here", "_law_kind", "_law_sort", "_law_parts_here", "_law_name", "_law_part"]) (sc := defScope s_law_small) (by decide +kernel)) (fun _ _ _ _ _ => (pgT (K := K) (n := 2) rfl rfl (pgs_cons (pg_name (i := 4) sc_law_small.nd rfl (by first | exact .inl rfl | exact .inr rfl)) (pgs_cons (pg_name (i := 5) sc_law_small.nd rfl (by first | exact .inl rfl | exact .inr rfl)) pgs_nil)))) (fun _ _ _ _ _ => pts_nil) (fun _ _ _ _ _ => (C8.pe_c c_law_small hr (by omega) rfl (pa_cons (pv 0) (pa_cons (pv 5) pa_nil))))) pa_nil))))))), ?_⟩
    refine ⟨_, rfl, _, rfl, ks, k, hks, rfl, fun H1 r s1 ir => ?_⟩
    unfold sortB at ir
    have hks1 := hks.mono (Tk.of s1)
    cases e : lookK ks k with
    | none =>
      rw [e] at ir
      obtain ⟨q, x1, x2, z, eq, j1, j2⟩ := im2 ir
      cases z
      cases im_str j1
      obtain ⟨pa, pxs, rfl, ep, ip⟩ := im_tup j2
      cases iml_nil ip
      have hs1 : smallN ks 4 k = 1 := by
        show (match lookK ks k with | none => 1 | some kd => _) = 1
        rw [e]
      rw [hs1] at k1
      refine ⟨r, _, rfl, SqT.of eq, rfl, _, _, rfl, _, _, rfl, rfl, ?_⟩
      refine ⟨_, rfl, rfl, _, rfl, ifFD (by decide +kernel) ?_⟩
      refine ⟨_, rfl, pa, rfl, ⟨_, SqT.of ep⟩, fun D hD => lc_tup (K := K) (a := pa) (xs := []) (fun i H' => Same H1 H' ∧ H' D = some (.lst [])) ⟨same_new hD, upd_same⟩ (fun i H' _ q => SqT.of (q.1 _ _ ep)) (fun i x H' hx q => by simp at hx) (fun H' q => ?_)⟩
      exact ⟨D, [], rfl, SqL.of q.2, _, _, rfl, rfl, k1 _ (s1.trans q.1)⟩
    | some kd =>
      rw [e] at ir
      obtain ⟨q, x1, x2, z, eq, j1, j2⟩ := im2 ir
      cases z
      cases im_str j1
      obtain ⟨pa, po, pxs, rfl, ep, _, ip⟩ := im_pt j2
      have hxl : pxs.length = kd.parts.length := by rw [ip.length, List.length_map]
      cases m with
      | zero =>
        have : k = "num" := hl
        rw [this, hn] at e
        cases e
      | succ m' =>
        rcases hl with z' | ⟨kd', e', l2, l3⟩
        · rw [z', hn] at e
          cases e
        rw [e] at e'
        cases e'
        refine ⟨r, _, rfl, SqT.of eq, rfl, _, _, rfl, _, _, rfl, rfl, ?_⟩
        refine ⟨_, rfl, rfl, _, rfl, ?_⟩
        cases ha : kd.alt with
        | true =>
          refine ifTD ?_
          cases hp : kd.parts with
          | nil => exact absurd hp (l2 ha)
          | cons p rr =>
            rw [hp] at ip
            obtain ⟨x0, xr, rfl, i0, _⟩ := iml_cons ip
            obtain ⟨qa, y1, y2, rfl, eqa, i1, i2⟩ := im2 i0
            cases im_str i2
            have lp := l3 p (by rw [hp]; exact List.mem_cons_self)
            refine ⟨_, rfl, _, rfl, pa, _, _, _, rfl, rfl, sqT_frz ep, at0, qa, _, _, _, rfl, rfl, SqT.of eqa, at1, ks, p.2, m', hks1, rfl, by omega, by omega, lp, hn, hf, fun H2 s2 => ⟨_, _, rfl, rfl, ?_⟩⟩
            rw [small_alt hn (by omega) e ha hp lp] at k1
            exact k1 _ (s1.trans s2)
        | false =>
          refine ifFD (show ¬ ("rec" : Str) = "alt" by decide +kernel) ?_
          refine ⟨_, rfl, pa, rfl, ⟨_, sqT_frz ep⟩, fun D hD => lc_tup (K := K) (a := pa) (xs := pxs) (fun i H' => Same H1 H' ∧ H' D = some (.lst ((((kd.parts.take i).map fun p => smallN ks 4 p.2).map fun n => ((n : Nat) : Int)).map V.int))) ⟨same_new hD, upd_same⟩ (fun i H' _ q => sqT_frz (q.1 _ _ ep)) (fun i x H' hx q => ?_) (fun H' q => ?_)⟩
          · obtain ⟨t1, hacc⟩ := q
            obtain ⟨pp, hp, ix⟩ := iml_map ip hx
            obtain ⟨qa, y1, y2, rfl, eqa, i1, i2⟩ := im2 (ix.mono (Tk.of t1))
            cases im_str i1
            cases im_str i2
            have lp := l3 pp (List.mem_of_getElem? hp)
            refine ⟨qa, _, rfl, SqT.of eqa, rfl, _, _, rfl, _, _, rfl, rfl, rfl, lcY (iteT ?_)⟩
            refine ⟨_, rfl, _, rfl, ks, pp.2, m', hks1.mono (Tk.of t1), rfl, by omega, by omega, lp, hn, hf, fun H2 t2 => ?_⟩
            refine ⟨_, t2 _ _ hacc, ?_, same_put (t1.trans t2) hD, ?_⟩
            · rw [List.length_map, List.length_map, List.length_map, List.length_take]
              have := hf kd (lookK_mem e).1
              exact lt_size (by omega)
            · rw [upd_same, take_snoc hp, List.map_append, List.map_append, List.map_append]
              rfl
          · obtain ⟨t1, hacc⟩ := q
            rw [hxl, List.take_length] at hacc
            refine ⟨D, _, rfl, SqL.of hacc, _, _, rfl, rfl, ?_⟩
            rw [small_rec hn (by omega) e ha l3] at k1
            rw [ints_sum]
            exact k1 _ (s1.trans t1)
end
end SwK
set_option maxHeartbeats 8000000
/-! the builder: kinds -/
namespace SwK
open PySem PySem.Spec PyProof.Rows L2
/-- names that are right -/
structure NsOk (ns : List Str) : Prop where
  len : ns.length = 26
  nd : ns.Nodup
  num : ¬ ("num" : Str) ∈ ns
  by' : ∀ c : Nat, 97 ≤ c → c ≤ 104 → ¬ (⟨#[98, 121, c]⟩ : Str) ∈ ns
/-- kinds in the building -/
structure GK (ns : List Str) (ks : List Kd) : Prop where
  name : ks.map (·.name) = ns.take ks.length
  parts : ∀ kd ∈ ks, (kd.parts.map (·.1)).Nodup
  few : ∀ kd ∈ ks, kd.parts.length ≤ 4
  alt : ∀ kd ∈ ks, kd.alt = true → kd.parts ≠ []
  ord : ∀ i kd, ks[i]? = some kd → ∀ p ∈ kd.parts, Knows (ks.take i) p.2
theorem LvK.num {ks : List Kd} : ∀ n, LvK ks n "num"
  | 0 => rfl
  | _ + 1 => .inl rfl
section
variable {ns : List Str} {ks : List Kd}
theorem GK.nd (h : GK ns ks) (n : NsOk ns) : (ks.map (·.name)).Nodup := by
  rw [h.name]
  exact List.Sublist.nodup (List.take_sublist _ _) n.nd
theorem GK.num (h : GK ns ks) (n : NsOk ns) : lookK ks "num" = none := by
  unfold lookK
  rw [List.find?_eq_none]
  intro kd hk e
  have e : kd.name = "num" := of_decide_eq_true e
  refine n.num ?_
  rw [← e]
  have : kd.name ∈ ks.map (·.name) := List.mem_map.mpr ⟨kd, hk, rfl⟩
  rw [h.name] at this
  exact List.mem_of_mem_take this
theorem GK.lev (h : GK ns ks) (n : NsOk ns) : ∀ {i : Nat} {kd : Kd}, ks[i]? = some kd → LvK ks (i + 1) kd.name := by
  intro i
  induction i using Nat.strongRecOn with
  | _ i ih =>
    intro kd e
    have hm := List.mem_of_getElem? e
    refine .inr ⟨kd, lookK_of (h.nd n) hm, h.alt kd hm, fun p hp => ?_⟩
    rcases h.ord i kd e p hp with q | q
    · rw [q]
      exact LvK.num i
    · obtain ⟨kd', h1, h2⟩ := List.mem_map.mp q
      obtain ⟨j, hj⟩ := List.getElem?_of_mem h1
      have hji : j < i := by
        have := (List.getElem?_eq_some_iff.mp hj).1
        rw [List.length_take] at this
        omega
      rw [List.getElem?_take_of_lt hji] at hj
      rw [← h2]
      exact (ih j hji hj).mono hji
theorem GK.lev4 (h : GK ns ks) (n : NsOk ns) (hl : ks.length ≤ 4) {k : Str} (hk : Knows ks k) : LvK ks 4 k := by
  rcases hk with q | q
  · rw [q]
    exact LvK.num 4
  · obtain ⟨kd, h1, h2⟩ := List.mem_map.mp q
    obtain ⟨i, hi⟩ := List.getElem?_of_mem h1
    rw [← h2]
    have := (List.getElem?_eq_some_iff.mp hi).1
    exact (h.lev n hi).mono (by omega)
theorem GK.ok (h : GK ns ks) (n : NsOk ns) (hl : ks.length ≤ 4) : KsOk ks :=
  ⟨h.nd n, h.num n, h.parts, fun kd hk => Nat.le_succ_of_le (h.few kd hk), hl, fun kd hk => h.lev4 n hl (.inr (List.mem_map.mpr ⟨kd, hk, rfl⟩))⟩
theorem GK.order (h : GK ns ks) (n : NsOk ns) (hl : ks.length ≤ 4) : KsOrd ks := by
  refine ⟨fun kd hk => ⟨lookK_of (h.nd n) hk, h.parts kd hk, Nat.le_trans (h.few kd hk) (by decide), fun p hp => ?_, fun e => ?_⟩, h.nd n, h.ord, by omega⟩
  · obtain ⟨i, hi⟩ := List.getElem?_of_mem hk
    exact knows_take (h.ord i kd hi p hp)
  · have := h.num n
    rw [← e, lookK_of (h.nd n) hk] at this
    cases this
theorem GK.snoc (h : GK ns ks) (n : NsOk ns) (hl : ks.length < 26) {nm : Str} {al : Bool} {ps : List (Str × Str)} (hn : ns[ks.length]? = some nm) (p1 : (ps.map (·.1)).Nodup) (p2 : ps.length ≤ 4) (p3 : al = true → ps ≠ []) (p4 : ∀ p ∈ ps, Knows ks p.2) : GK ns (ks ++ [⟨nm, al, ps⟩]) := by
  have sp : ∀ {kd : Kd}, kd ∈ ks ++ [⟨nm, al, ps⟩] → kd ∈ ks ∨ kd = ⟨nm, al, ps⟩ := fun hk => by
    rcases List.mem_append.mp hk with z | z
    · exact .inl z
    · exact .inr (List.mem_singleton.mp z)
  refine ⟨?_, fun kd hk => ?_, fun kd hk => ?_, fun kd hk => ?_, fun i kd e p hp => ?_⟩
  · rw [List.map_append, h.name, List.length_append]
    show ns.take ks.length ++ [nm] = ns.take (ks.length + 1)
    rw [take_snoc hn]
  · rcases sp hk with z | rfl
    · exact h.parts kd z
    · exact p1
  · rcases sp hk with z | rfl
    · exact h.few kd z
    · exact p2
  · rcases sp hk with z | rfl
    · exact h.alt kd z
    · exact p3
  · by_cases hi : i < ks.length
    · rw [List.getElem?_append_left hi] at e
      rw [List.take_append_of_le_length (Nat.le_of_lt hi)]
      exact h.ord i kd e p hp
    · have hi2 : i = ks.length := by
        have := (List.getElem?_eq_some_iff.mp e).1
        rw [List.length_append] at this
        have : i < ks.length + 1 := this
        omega
      subst hi2
      rw [List.getElem?_append_right (Nat.le_refl _), Nat.sub_self] at e
      have e := Option.some.inj (show some _ = some kd from e)
      subst e
      rw [List.take_append_of_le_length (Nat.le_refl _), List.take_length]
      exact p4 p hp
end
/-- names at an address -/
def NmAt (H : Hp) (np : Addr) (ns : List Str) : Prop := H np = some (.lst (ns.map V.str))
theorem nm_noint {ns : List Str} : ∀ x ∈ ns.map V.str, ∀ i, x ≠ .int i := fun x hx i e => by
  obtain ⟨y, _, rfl⟩ := List.mem_map.mp hx
  cases e
def spParts : Sp := sp4 fun a b c d H Q => ∃ fp ns ks al np nms, a = .ref fp ∧ Feed H fp ∧ NsOk ns ∧ GK ns ks ∧ ks.length ≤ 4 ∧ KsAt H b ks ∧ c = .str (sortS al) ∧ d = .ref np ∧ NmAt H np nms ∧ nms.length = 4 ∧ nms.Nodup ∧
  ∀ H' r ps, FB fp H H' → Im H' (.ref r) (partsD ps) → (ps.map (·.1)).Nodup → ps.length ≤ 4 → (al = true → ps ≠ []) → (∀ p ∈ ps, Knows ks p.2) → Q (.ref r) H'
def spKinds : Sp := sp2 fun a b H Q => ∃ fp np ns, a = .ref fp ∧ Feed H fp ∧ b = .ref np ∧ NmAt H np ns ∧ NsOk ns ∧ ∀ H' r ks, FB fp H H' → Im H' (.ref r) (kindsD ks) → GK ns ks → ks.length ≤ 4 → Q (.ref r) H'
theorem kinds_noint {ks : List Kd} : ∀ d ∈ ks.map Kd.d, ∀ i, d ≠ .int i := fun d hd i e => by
  obtain ⟨k, _, rfl⟩ := List.mem_map.mp hd
  cases e
/-- the kinds' list stands -/
theorem KsAt.fb {fp : Addr} {H H' : Hp} {v : V} {ks : List Kd} (hf : Feed H fp) (b : FB fp H H') (h : KsAt H v ks) : KsAt H' v ks := by
  obtain ⟨l, xs, rfl, e, i⟩ := h
  exact ⟨l, xs, rfl, b.ne e (feed_ne hf e (iml_noint i kinds_noint)), i.mono (b.tk hf)⟩
theorem KsAt.same {H H' : Hp} {v : V} {ks : List Kd} (s : Same H H') (h : KsAt H v ks) : KsAt H' v ks := by
  obtain ⟨l, xs, rfl, e, i⟩ := h
  exact ⟨l, xs, rfl, s _ _ e, i.mono (Tk.of s)⟩
theorem NmAt.fb {fp np : Addr} {H H' : Hp} {ns : List Str} (hf : Feed H fp) (b : FB fp H H') (h : NmAt H np ns) : NmAt H' np ns := b.ne h (feed_ne hf h nm_noint)
theorem range_of {J : Int} {n : Nat} (e : J = (n : Int)) (h : n ≤ 1000) {R : It → Hp → Prop} {H : Hp} (r : R (Itr 0 n) H) : -(2 ^ 62) ≤ J ∧ J < 2 ^ 62 ∧ R (Itr 0 J.toNat) H := by
  subst e
  exact ⟨by omega, by omega, r⟩
theorem sort_is (al : Bool) : decide (V.str (sortS al) = V.str "alt") = al ∧ decide (V.str (sortS al) = V.str "rec") = !al := by
  cases al with
  | true => exact ⟨strT, strF (show ¬ ("alt" : Str) = "rec" by decide +kernel)⟩
  | false => exact ⟨strF (show ¬ ("rec" : Str) = "alt" by decide +kernel), strT⟩
section
variable {P : Program} {w : World} {K : PySem.W.Frag} {mg : Str → Option Value} {base : Heap}
/- _law_parts: slots 0 _law_feed_here 1 _law_kinds_here 2 _law_sort 3 _law_names_here 4 _law_parts_here 5 _law_left 6 _law_j 7 _law_kind 8 _law_row -/
theorem sc_law_parts : FnScope ["_law_feed_here", "_law_kinds_here", "_law_sort", "_law_names_here", "_law_parts_here", "_law_left", "_law_j", "_law_kind", "_law_row"] ["_law_feed_here", "_law_kinds_here", "_law_sort", "_law_names_here"] (defScope s_law_parts) := ⟨rfl, rfl, rfl, by decide +kernel, rfl, by decide +kernel, by decide +kernel⟩
theorem ok_law_parts (T : Txt K mg) (c_law_take : C8.Cal P w K mg base 1 "_law_take" spTake []) (c_law_size : C8.Cal P w K mg base 7 "_law_size" (spSize 5) []) : C8.Cal P w K mg base 8 "_law_parts" spParts [] := by
  refine mkCal (f_law_parts T) (g_law_parts T) sc_law_parts (fun _ _ _ _ _ _ us hl => match us, hl with | [_, _, _, _], _ => rfl) (fun vs H Q E h => ?_) (fun vs H Q E h => ?_)
  · obtain ⟨a, b, c, d, rfl, _⟩ := sp4_len h
    rfl
  obtain ⟨a, b, c, d, rfl, h⟩ := sp4_len h
  intro cdv A outer s E hr
  have hu := hu_of hr
  obtain ⟨fp, ns, ks, al, np, nms, rfl, hf, hns, gk, hkl, hks, rfl, rfl, hnp, hnl, hnn, k1⟩ := h
  refine ⟨_, (pss_cons (ps_set (i := 4) sc_law_parts.nd rfl (by first | exact .inl rfl | exact .inr rfl) (pe_lst pa_nil))
        (pss_cons (ps_set (i := 5) sc_law_parts.nd rfl (by first | exact .inl rfl | exact .inr rfl) pe_int)
        (pss_cons (ps_for PassesOwn.never rfl (pi_range1 rfl (z_range T) (pa_cons (pe_op op_add (pe_op op_add (C8.pe_c c_law_take hr (by omega) rfl (pa_cons (pv 0) (pa_cons pe_int pa_nil))) (pe_callTy call_int1 rfl (z_int T) (by decide +kernel) (pa_cons (pe_cmpR op_eq (pv 2) pe_str (nomark _)) pa_nil))) (pe_callTy call_int1 rfl (z_int T) (by decide +kernel) (pa_cons (pe_and (pe_cmpR op_eq (C8.pe_c c_law_take hr (by omega) rfl (pa_cons (pv 0) (pa_cons pe_int pa_nil))) pe_int (nomark _)) (pe_one (pe_cmpR op_eq (pv 2) pe_str (nomark _)))) pa_nil))) pa_nil)) (pg_name (i := 6) sc_law_parts.nd rfl (by first | exact .inl rfl | exact .inr rfl)) (pss_cons (ps_set (i := 7) sc_law_parts.nd rfl (by first | exact .inl rfl | exact .inr rfl) (pe_ix ix_list (pe_op op_cat (pe_lst (pa_cons pe_str pa_nil)) (pe_lc (own := [("_law_row", 8)]) rfl sc_law_parts.nd (pi_list (pv 1)) (blkOk_by (N := ["_law_feed_here", "_law_kinds_here", "_law_sort", "_law_names_here", "_law_parts_here", "_law_left", "_law_j", "_law_kind", "_law_row"]) (sc := defScope s_law_parts) (by decide +kernel)) (fun _ _ _ _ _ => (pg_name (i := 8) sc_law_parts.nd rfl (by first | exact .inl rfl | exact .inr rfl))) (fun _ _ _ _ _ => pts_nil) (fun _ _ _ _ _ => (pe_ix (ixT (K := K) rfl) (pv 8) pe_int (fun _ _ => rfl))))) (C8.pe_c c_law_take hr (by omega) rfl (pa_cons (pv 0) (pa_cons (pe_op op_add pe_int (pe_callB call_len rfl (z_len T) PySem.boot_len (pa_cons (pv 1) pa_nil))) pa_nil))) (fun _ _ => rfl)))
        (pss_cons (ps_if (pt_cmpR op_gt (C8.pe_c c_law_size hr (by omega) rfl (pa_cons (pv 1) (pa_cons (pv 7) pa_nil))) (pv 5) (nomark _)) (pss_one (ps_set (i := 7) sc_law_parts.nd rfl (by first | exact .inl rfl | exact .inr rfl) pe_str)) pss_nil)
        (pss_cons (ps_set (i := 5) sc_law_parts.nd rfl (by first | exact .inl rfl | exact .inr rfl) (pe_op op_sub (pv 5) (C8.pe_c c_law_size hr (by omega) rfl (pa_cons (pv 1) (pa_cons (pv 7) pa_nil)))))
        (pss_one (ps_expr (pe_bm PySem.F.plainAttrs_list PySem.F.slot_list_append PySem.F.type_list_append mt_append (pv 4) (pa_cons (pe_tup (pa_cons (pe_ix ix_list (pv 3) (pv 6) (fun _ _ => rfl)) (pa_cons (pv 7) pa_nil))) pa_nil))))))))
        (pss_one (ps_ret (pe_callTy call_tupleP rfl (z_tuple T) (by decide +kernel) (pa_cons (pe_slice sl_list (pv 4) po_none (po_some pe_int)) pa_nil))))))), ?_⟩
  refine ⟨le_size (by show 0 ≤ 100000; decide), fun pl hpl => ?_⟩
  have s1 : Same H (upd H pl (.lst [])) := same_new hpl
  have epl : upd H pl (.lst []) pl = some (.lst []) := upd_same
  have hf1 := hf.same s1
  have npl : ∀ {z : Addr} {o : HO}, H z = some o → z ≠ pl := fun h e => by rw [e, hpl] at h; cases h
  have fpl : fp ≠ pl := by
    obtain ⟨x, y, e, _⟩ := hf
    exact npl e
  generalize upd H pl (.lst []) = H1 at s1 epl hf1 ⊢
  refine ⟨_, rfl, fp, 4, rfl, hf1, rfl, by decide, by decide, fun H2 d1 h1 h2 b1 => ?_⟩
  refine ⟨_, rfl, rfl, .inr ⟨_, rfl, _, _, rfl, rfl, ?_⟩⟩
  refine ⟨_, rfl, fp, 9, rfl, b1.fd, rfl, by decide, by decide, fun H3 d2 h3 h4 b2 => ⟨rfl, _, rfl, ?_⟩⟩
  have b12 := b1.trans b2
  -- the loop
  have loopEnd : ∀ (H' : Hp) (ps : List (Str × Str)) (acc : List V), Bt (fun a => a = fp ∨ a = pl) H H' → Feed H' fp → H' pl = some (.lst acc) → ImL H' acc (ps.map pairD) → (∀ n, ps.map (·.1) = nms.take n → n ≤ 4 → (al = true → 1 ≤ n) → (∀ p ∈ ps, Knows ks p.2) →
      ∀ z, H' z = none → ∀ l o, upd H' z (.lst (cutV acc none (some 4))) l = none → o.dict = none → Q (.ref l) (upd (upd H' z (.lst (cutV acc none (some 4)))) l (.frz o (.tup (cutV acc none (some 4)))))) := by
    intro H' ps acc bt hfd hacc iacc n hn hn4 hal hkn z hz l o hl ho
    have hpn : ps.length ≤ 4 := by
      have := congrArg List.length hn
      rw [List.length_map, List.length_take] at this
      omega
    have hal4 : acc.length ≤ 4 := by rw [iacc.length, List.length_map]; exact hpn
    have ecut : cutV acc none (some 4) = acc := by
      unfold cutV
      rw [show HT.sIx acc.length 0 none = 0 from rfl, List.drop_zero]
      refine List.take_of_length_le ?_
      show acc.length ≤ HT.sIx acc.length acc.length (some 4) - 0
      unfold HT.sIx
      simp only []
      split <;> omega
    rw [ecut] at hl ⊢
    have sz : Same H' (upd H' z (.lst acc)) := same_new hz
    have sl : Same (upd H' z (.lst acc)) (upd (upd H' z (.lst acc)) l (.frz o (.tup acc))) := same_new hl
    have szl := sz.trans sl
    refine k1 _ l ps ⟨fun a o' e na => ?_, hfd.same szl⟩ (im_newP hl ho (iacc.mono (Tk.of sz))) ?_ hpn (fun a => ?_) hkn
    · have na : a ≠ fp := na
      exact szl _ _ (bt _ _ e (by rintro (q | q); exact na q; exact npl e q))
    · rw [hn]
      exact List.Sublist.nodup (List.take_sublist _ _) hnn
    · intro e
      rw [e] at hn
      have := congrArg List.length hn
      rw [List.length_map, List.length_take] at this
      have := hal a
      show False
      have h0 : ([] : List (Str × Str)).length = 0 := rfl
      omega
  obtain ⟨n, hn4, hal1, hnE⟩ : ∃ n : Nat, n ≤ 4 ∧ (al = true → 1 ≤ n) ∧ (n : Int) = d1 + (if al = true then 1 else 0) + (if al = true then 0 else if d2 = 8 then 1 else 0) := by
    refine ⟨(d1 + (if al = true then 1 else 0) + (if al = true then 0 else if d2 = 8 then 1 else 0)).toNat, ?_, fun ha => ?_, ?_⟩
    · cases al <;> (simp only [if_true, if_false, Bool.false_eq_true]; (try split) <;> omega)
    · subst ha
      simp only [if_true]
      omega
    · cases al <;> (simp only [if_true, if_false, Bool.false_eq_true]; (try split) <;> omega)
  obtain ⟨sa1, sa2⟩ := sort_is al
  obtain ⟨l, kxs, rfl, el, ikH⟩ := hks
  have nlf : l ≠ fp := feed_ne hf el (iml_noint ikH kinds_noint)
  have nlp : l ≠ pl := npl el
  have nnf : np ≠ fp := feed_ne hf hnp nm_noint
  have nnp : np ≠ pl := npl hnp
  have hkxl : kxs.length = ks.length := by rw [ikH.length, List.length_map]
  have ntk : ∀ {H' : Hp}, Bt (fun a => a = fp ∨ a = pl) H H' → Tk H H' := fun bt => bt.tk fun a o ea e => by
    rcases ea with q | q
    · obtain ⟨x, y, e', _⟩ := hf
      rw [q, e'] at e
      cases e
      exact ntL
    · rw [q, hpl] at e
      cases e
  by_cases h8 : d2 = 8
  · rw [decide_eq_true (congrArg V.int h8)]
    refine iteT ⟨_, rfl, rfl, .inr ⟨_, rfl, _, _, rfl, rfl, ?_⟩⟩
    have ej : d1 + (if decide (V.str (sortS al) = V.str "alt") = true then 1 else 0) + (if decide (V.str (sortS al) = V.str "rec") = true then 1 else 0) = (n : Int) := by
      rw [sa1, sa2, hnE]
      cases al <;> simp [h8]
    refine ⟨_, rfl, ?_⟩
    rw [ej]
    refine ⟨by omega, by omega, ?_⟩
    rw [Int.toNat_natCast]
    refine for_range (fun j σ H' => Bt (fun a => a = fp ∨ a = pl) H H' ∧ Feed H' fp ∧ (∃ (ps : List (Str × Str)) (acc : List V), H' pl = some (.lst acc) ∧ ImL H' acc (ps.map pairD) ∧ ps.map (·.1) = nms.take j ∧ ∀ p ∈ ps, Knows ks p.2) ∧ ∃ (z : Int) (o6 o7 o8 : Option V), σ = [some (.ref fp), some (.ref l), some (.str (sortS al)), some (.ref np), some (.ref pl), some (.int z), o6, o7, o8]) ⟨?_, b12.fd, ⟨[], [], b12.ne epl (Ne.symm fpl), .nil, rfl, fun p hp => by cases hp⟩, 25, _, _, _, rfl⟩ ?_ ?_
    · intro a o e na
      exact b12.bt _ _ (s1 _ _ e) fun q => na (.inl q)
    · rintro j σ H' hj ⟨bt, hfd, ⟨ps, acc, hacc, iacc, hps, hkps⟩, z, o6, o7, o8, rfl⟩
      obtain ⟨nm, hnm⟩ : ∃ nm, nms[j]? = some nm := ⟨nms[j]'(by omega), by simp⟩
      have hnmV : (nms.map V.str)[j]? = some (V.str nm) := by rw [List.getElem?_map, hnm]; rfl
      have hpl4 : ps.length ≤ 4 := by
        have := congrArg List.length hps
        rw [List.length_map, List.length_take] at this
        omega
      have hal4 : acc.length ≤ 4 := by rw [iacc.length, List.length_map]; exact hpl4
      have el' : H' l = some (.lst kxs) := bt _ _ el (by rintro (q | q); exact nlf q; exact nlp q)
      have enp' : NmAt H' np nms := bt _ _ hnp (by rintro (q | q); exact nnf q; exact nnp q)
      have ik' := ikH.mono (ntk bt)
      refine ⟨le_size (by show 1 ≤ 100000; decide), fun ql hql => ?_⟩
      have v1 : Same H' (upd H' ql (.lst [.str "num"])) := same_new hql
      have eql : upd H' ql (.lst [.str "num"]) ql = some (.lst [.str "num"]) := upd_same
      generalize upd H' ql (.lst [.str "num"]) = Hq at v1 eql ⊢
      refine ⟨_, rfl, l, rfl, ⟨_, SqL.of (v1 _ _ el')⟩, fun D hD => lc_list (K := K) (a := l) (xs := kxs) (fun i H2 => Same Hq H2 ∧ H2 D = some (.lst (((ks.take i).map (·.name)).map V.str))) ⟨same_new hD, upd_same⟩ (fun i H2 _ q => SqL.of (q.1 _ _ (v1 _ _ el'))) (fun i x H2 hx q => ?_) (fun H2 q => ?_)⟩
      · obtain ⟨t1, ht⟩ := q
        obtain ⟨kd, hkd, ix⟩ := iml_map ik' hx
        obtain ⟨qa, y1, y2, y3, rfl, eqa, i1, i2, i3⟩ := im3 (ix.mono (Tk.of (v1.trans t1)))
        cases im_str i1
        refine ⟨rfl, lcY (iteT ⟨_, rfl, qa, _, _, _, rfl, rfl, SqT.of eqa, at0, _, ht, ?_, same_put t1 hD, ?_⟩)⟩
        · rw [List.length_map, List.length_map, List.length_take]
          exact lt_size (by omega)
        · rw [upd_same, take_snoc hkd, List.map_append, List.map_append]
          rfl
      obtain ⟨t1, ht⟩ := q
      rw [hkxl, List.take_length] at ht
      have v2 := v1.trans t1
      refine ⟨ql, D, _, _, rfl, rfl, t1 _ _ eql, ht, le_size (by rw [List.length_map, List.length_map]; show 1 + _ ≤ _; omega), fun cp hcp => ?_⟩
      have v3 : Same H2 (upd H2 cp (.lst ([.str "num"] ++ (ks.map (·.name)).map V.str))) := same_new hcp
      have ecp : upd H2 cp (.lst ([.str "num"] ++ (ks.map (·.name)).map V.str)) cp = some (.lst ((("num" : Str) :: ks.map (·.name)).map V.str)) := upd_same
      generalize upd H2 cp (.lst ([.str "num"] ++ (ks.map (·.name)).map V.str)) = Hc at v3 ecp ⊢
      have v4 := v2.trans v3
      have hfc := hfd.same v4
      refine ⟨_, rfl, _, rfl, _, _, rfl, .inl ⟨_, SqL.of (v4 _ _ el'), rfl⟩, _, _, rfl, rfl, fp, _, rfl, hfc, rfl, (by omega), (by rw [hkxl]; omega), fun H4 d g1 g2 bb => ?_⟩
      have hidx : d.toNat < (("num" : Str) :: ks.map (·.name)).length := by
        rw [List.length_cons, List.length_map]
        rw [hkxl] at g2
        omega
      obtain ⟨k, hk⟩ : ∃ k, (("num" : Str) :: ks.map (·.name))[d.toNat]? = some k := ⟨_, List.getElem?_eq_getElem hidx⟩
      have hkn : Knows ks k := by
        rcases List.mem_cons.mp (List.mem_of_getElem? hk) with q | q
        · exact .inl q
        · exact .inr q
      have lv := gk.lev4 hns hkl hkn
      have hkV : atI ((("num" : Str) :: ks.map (·.name)).map V.str) d = some (.str k) := by
        have e : d = ((d.toNat : Nat) : Int) := by omega
        rw [e]
        refine atI_nat ?_
        rw [List.getElem?_map, hk]
        rfl
      refine ⟨cp, _, _, _, rfl, rfl, SqL.of (bb.ne ecp (feed_ne hfc ecp nm_noint)), hkV, ?_⟩
      have btc : Bt (fun a => a = fp ∨ a = pl) H H4 := (bt.trans (Bt.of v4)).trans fun a o e na => bb.bt _ _ e fun q => na (.inl q)
      have hl2 : H4 l = some (.lst kxs) := bb.ne (v4 _ _ el') nlf
      have hnp2 : H4 np = some (.lst (nms.map V.str)) := bb.ne (v4 _ _ enp') nnf
      have hpl2 : H4 pl = some (.lst acc) := bb.ne (v4 _ _ hacc) (Ne.symm fpl)
      have tk4 : Tk H' H4 := (Tk.of v4).trans (bb.tk hfc)
      have ik := ik'.mono tk4
      have iacc4 := iacc.mono tk4
      have hfd4 := bb.fd
      clear hkV hidx hk
      have next : ∀ (H5 : Hp) (k' : Str), Same H4 H5 → Knows ks k' → ∀ tq, H5 tq = some (.tup [.str nm, .str k']) → ∀ (z : Int) (o6 o7 o8 : Option V),
          Bt (fun a => a = fp ∨ a = pl) H (upd H5 pl (.lst (acc ++ [.ref tq]))) ∧ Feed (upd H5 pl (.lst (acc ++ [.ref tq]))) fp ∧ (∃ (ps : List (Str × Str)) (acc' : List V), upd H5 pl (.lst (acc ++ [.ref tq])) pl = some (.lst acc') ∧ ImL (upd H5 pl (.lst (acc ++ [.ref tq]))) acc' (ps.map pairD) ∧ ps.map (·.1) = nms.take (j + 1) ∧ ∀ p ∈ ps, Knows ks p.2) ∧
            ∃ (z' : Int) (p6 p7 p8 : Option V), [some (V.ref fp), some (V.ref l), some (V.str (sortS al)), some (V.ref np), some (V.ref pl), some (V.int z), o6, o7, o8] = [some (.ref fp), some (.ref l), some (.str (sortS al)), some (.ref np), some (.ref pl), some (.int z'), p6, p7, p8] := by
        intro H5 k' u5 hk' tq etq z o6 o7 o8
        have e5 := u5 _ _ hpl2
        have tkp := tk_put (o := .lst (acc ++ [.ref tq])) e5 ntL
        refine ⟨(btc.trans (Bt.of u5)).trans (Bt.put (.inr rfl)), ?_, ⟨ps ++ [(nm, k')], _, upd_same, ?_, ?_, ?_⟩, z, o6, o7, o8, rfl⟩
        · obtain ⟨x, y, e, q1, q2⟩ := hfd4.same u5
          exact ⟨x, y, (upd_ne fpl).trans e, q1, q2⟩
        · rw [List.map_append]
          exact ((iacc4.mono (Tk.of u5)).append (ImL.one (Im.tup etq (.cons (.str _) (.cons (.str _) .nil))))).mono tkp
        · rw [List.map_append, hps, take_snoc hnm]
          rfl
        · intro p hp
          rcases List.mem_append.mp hp with q | q
          · exact hkps p q
          · have := List.mem_singleton.mp q
            subst this
            exact hk'
      refine ⟨_, rfl, _, rfl, ks, k, 4, ⟨l, kxs, rfl, hl2, ik⟩, rfl, by decide, lv, gk.num hns, (fun kd hk => Nat.le_succ_of_le (gk.few kd hk)), fun H5 z1 u3 => ?_⟩
      refine ⟨_, rfl, _, _, rfl, rfl, _, rfl, ?_⟩
      by_cases hz : z < z1
      · rw [decide_eq_true hz]
        refine iteT ?_
        refine ⟨_, rfl, _, rfl, _, rfl, ks, ("num" : Str), 4, ⟨l, kxs, rfl, u3 _ _ hl2, ik.mono (Tk.of u3)⟩, rfl, by decide, LvK.num 4, gk.num hns, (fun kd hk => Nat.le_succ_of_le (gk.few kd hk)), fun H6 z2 u6 => ⟨_, _, rfl, rfl, ?_⟩⟩
        refine ⟨_, rfl, .inl ⟨rfl, _, SqL.of (u6 _ _ (u3 _ _ hpl2))⟩, _, rfl, _, rfl, np, _, _, _, rfl, rfl, SqL.of (u6 _ _ (u3 _ _ hnp2)), (by rw [Int.zero_add]; exact atI_nat hnmV), _, rfl, le_size (by show 2 ≤ 100000; decide), fun tq htq => ?_⟩
        have u7 := same_new (o := .tup [.str nm, .str "num"]) htq
        have u37 := (u3.trans u6).trans u7
        refine ⟨pl, _, _, rfl, rfl, u37 _ _ hpl2, lt_size (by omega), ?_⟩
        obtain ⟨n1, n2, n3, _⟩ := next _ "num" u37 (.inl rfl) tq upd_same 0 none none none
        exact ⟨n1, n2, n3, _, _, _, _, rfl⟩
      · rw [decide_eq_false hz]
        refine iteF ?_
        refine ⟨_, rfl, _, rfl, _, rfl, ks, k, 4, ⟨l, kxs, rfl, u3 _ _ hl2, ik.mono (Tk.of u3)⟩, rfl, by decide, lv, gk.num hns, (fun kd hk => Nat.le_succ_of_le (gk.few kd hk)), fun H6 z2 u6 => ⟨_, _, rfl, rfl, ?_⟩⟩
        refine ⟨_, rfl, .inl ⟨rfl, _, SqL.of (u6 _ _ (u3 _ _ hpl2))⟩, _, rfl, _, rfl, np, _, _, _, rfl, rfl, SqL.of (u6 _ _ (u3 _ _ hnp2)), (by rw [Int.zero_add]; exact atI_nat hnmV), _, rfl, le_size (by show 2 ≤ 100000; decide), fun tq htq => ?_⟩
        have u7 := same_new (o := .tup [.str nm, .str k]) htq
        have u37 := (u3.trans u6).trans u7
        refine ⟨pl, _, _, rfl, rfl, u37 _ _ hpl2, lt_size (by omega), ?_⟩
        obtain ⟨n1, n2, n3, _⟩ := next _ k u37 hkn tq upd_same 0 none none none
        exact ⟨n1, n2, n3, _, _, _, _, rfl⟩
    · rintro σ H' ⟨bt, hfd, ⟨ps, acc, hacc, iacc, hps, hkps⟩, z, o6, o7, o8, rfl⟩
      refine ⟨_, rfl, _, rfl, pl, _, rfl, SqL.of hacc, fun zz hzz => ⟨_, _, rfl, SqL.of upd_same, fun l' o hl ho => ?_⟩⟩
      exact loopEnd H' ps acc bt hfd hacc iacc n hps hn4 hal1 hkps zz hzz l' o hl ho
  · rw [decide_eq_false (fun e => h8 (V.int.inj e))]
    refine iteF (.inr ⟨_, rfl, _, _, rfl, rfl, ?_⟩)
    have ej : d1 + (if decide (V.str (sortS al) = V.str "alt") = true then 1 else 0) + (if false = true then 1 else 0) = (n : Int) := by
      rw [sa1, hnE]
      cases al <;> simp [h8]
    refine ⟨_, rfl, ?_⟩
    rw [ej]
    refine ⟨by omega, by omega, ?_⟩
    rw [Int.toNat_natCast]
    refine for_range (fun j σ H' => Bt (fun a => a = fp ∨ a = pl) H H' ∧ Feed H' fp ∧ (∃ (ps : List (Str × Str)) (acc : List V), H' pl = some (.lst acc) ∧ ImL H' acc (ps.map pairD) ∧ ps.map (·.1) = nms.take j ∧ ∀ p ∈ ps, Knows ks p.2) ∧ ∃ (z : Int) (o6 o7 o8 : Option V), σ = [some (.ref fp), some (.ref l), some (.str (sortS al)), some (.ref np), some (.ref pl), some (.int z), o6, o7, o8]) ⟨?_, b12.fd, ⟨[], [], b12.ne epl (Ne.symm fpl), .nil, rfl, fun p hp => by cases hp⟩, 25, _, _, _, rfl⟩ ?_ ?_
    · intro a o e na
      exact b12.bt _ _ (s1 _ _ e) fun q => na (.inl q)
    · rintro j σ H' hj ⟨bt, hfd, ⟨ps, acc, hacc, iacc, hps, hkps⟩, z, o6, o7, o8, rfl⟩
      obtain ⟨nm, hnm⟩ : ∃ nm, nms[j]? = some nm := ⟨nms[j]'(by omega), by simp⟩
      have hnmV : (nms.map V.str)[j]? = some (V.str nm) := by rw [List.getElem?_map, hnm]; rfl
      have hpl4 : ps.length ≤ 4 := by
        have := congrArg List.length hps
        rw [List.length_map, List.length_take] at this
        omega
      have hal4 : acc.length ≤ 4 := by rw [iacc.length, List.length_map]; exact hpl4
      have el' : H' l = some (.lst kxs) := bt _ _ el (by rintro (q | q); exact nlf q; exact nlp q)
      have enp' : NmAt H' np nms := bt _ _ hnp (by rintro (q | q); exact nnf q; exact nnp q)
      have ik' := ikH.mono (ntk bt)
      refine ⟨le_size (by show 1 ≤ 100000; decide), fun ql hql => ?_⟩
      have v1 : Same H' (upd H' ql (.lst [.str "num"])) := same_new hql
      have eql : upd H' ql (.lst [.str "num"]) ql = some (.lst [.str "num"]) := upd_same
      generalize upd H' ql (.lst [.str "num"]) = Hq at v1 eql ⊢
      refine ⟨_, rfl, l, rfl, ⟨_, SqL.of (v1 _ _ el')⟩, fun D hD => lc_list (K := K) (a := l) (xs := kxs) (fun i H2 => Same Hq H2 ∧ H2 D = some (.lst (((ks.take i).map (·.name)).map V.str))) ⟨same_new hD, upd_same⟩ (fun i H2 _ q => SqL.of (q.1 _ _ (v1 _ _ el'))) (fun i x H2 hx q => ?_) (fun H2 q => ?_)⟩
      · obtain ⟨t1, ht⟩ := q
        obtain ⟨kd, hkd, ix⟩ := iml_map ik' hx
        obtain ⟨qa, y1, y2, y3, rfl, eqa, i1, i2, i3⟩ := im3 (ix.mono (Tk.of (v1.trans t1)))
        cases im_str i1
        refine ⟨rfl, lcY (iteT ⟨_, rfl, qa, _, _, _, rfl, rfl, SqT.of eqa, at0, _, ht, ?_, same_put t1 hD, ?_⟩)⟩
        · rw [List.length_map, List.length_map, List.length_take]
          exact lt_size (by omega)
        · rw [upd_same, take_snoc hkd, List.map_append, List.map_append]
          rfl
      obtain ⟨t1, ht⟩ := q
      rw [hkxl, List.take_length] at ht
      have v2 := v1.trans t1
      refine ⟨ql, D, _, _, rfl, rfl, t1 _ _ eql, ht, le_size (by rw [List.length_map, List.length_map]; show 1 + _ ≤ _; omega), fun cp hcp => ?_⟩
      have v3 : Same H2 (upd H2 cp (.lst ([.str "num"] ++ (ks.map (·.name)).map V.str))) := same_new hcp
      have ecp : upd H2 cp (.lst ([.str "num"] ++ (ks.map (·.name)).map V.str)) cp = some (.lst ((("num" : Str) :: ks.map (·.name)).map V.str)) := upd_same
      generalize upd H2 cp (.lst ([.str "num"] ++ (ks.map (·.name)).map V.str)) = Hc at v3 ecp ⊢
      have v4 := v2.trans v3
      have hfc := hfd.same v4
      refine ⟨_, rfl, _, rfl, _, _, rfl, .inl ⟨_, SqL.of (v4 _ _ el'), rfl⟩, _, _, rfl, rfl, fp, _, rfl, hfc, rfl, (by omega), (by rw [hkxl]; omega), fun H4 d g1 g2 bb => ?_⟩
      have hidx : d.toNat < (("num" : Str) :: ks.map (·.name)).length := by
        rw [List.length_cons, List.length_map]
        rw [hkxl] at g2
        omega
      obtain ⟨k, hk⟩ : ∃ k, (("num" : Str) :: ks.map (·.name))[d.toNat]? = some k := ⟨_, List.getElem?_eq_getElem hidx⟩
      have hkn : Knows ks k := by
        rcases List.mem_cons.mp (List.mem_of_getElem? hk) with q | q
        · exact .inl q
        · exact .inr q
      have lv := gk.lev4 hns hkl hkn
      have hkV : atI ((("num" : Str) :: ks.map (·.name)).map V.str) d = some (.str k) := by
        have e : d = ((d.toNat : Nat) : Int) := by omega
        rw [e]
        refine atI_nat ?_
        rw [List.getElem?_map, hk]
        rfl
      refine ⟨cp, _, _, _, rfl, rfl, SqL.of (bb.ne ecp (feed_ne hfc ecp nm_noint)), hkV, ?_⟩
      have btc : Bt (fun a => a = fp ∨ a = pl) H H4 := (bt.trans (Bt.of v4)).trans fun a o e na => bb.bt _ _ e fun q => na (.inl q)
      have hl2 : H4 l = some (.lst kxs) := bb.ne (v4 _ _ el') nlf
      have hnp2 : H4 np = some (.lst (nms.map V.str)) := bb.ne (v4 _ _ enp') nnf
      have hpl2 : H4 pl = some (.lst acc) := bb.ne (v4 _ _ hacc) (Ne.symm fpl)
      have tk4 : Tk H' H4 := (Tk.of v4).trans (bb.tk hfc)
      have ik := ik'.mono tk4
      have iacc4 := iacc.mono tk4
      have hfd4 := bb.fd
      clear hkV hidx hk
      have next : ∀ (H5 : Hp) (k' : Str), Same H4 H5 → Knows ks k' → ∀ tq, H5 tq = some (.tup [.str nm, .str k']) → ∀ (z : Int) (o6 o7 o8 : Option V),
          Bt (fun a => a = fp ∨ a = pl) H (upd H5 pl (.lst (acc ++ [.ref tq]))) ∧ Feed (upd H5 pl (.lst (acc ++ [.ref tq]))) fp ∧ (∃ (ps : List (Str × Str)) (acc' : List V), upd H5 pl (.lst (acc ++ [.ref tq])) pl = some (.lst acc') ∧ ImL (upd H5 pl (.lst (acc ++ [.ref tq]))) acc' (ps.map pairD) ∧ ps.map (·.1) = nms.take (j + 1) ∧ ∀ p ∈ ps, Knows ks p.2) ∧
            ∃ (z' : Int) (p6 p7 p8 : Option V), [some (V.ref fp), some (V.ref l), some (V.str (sortS al)), some (V.ref np), some (V.ref pl), some (V.int z), o6, o7, o8] = [some (.ref fp), some (.ref l), some (.str (sortS al)), some (.ref np), some (.ref pl), some (.int z'), p6, p7, p8] := by
        intro H5 k' u5 hk' tq etq z o6 o7 o8
        have e5 := u5 _ _ hpl2
        have tkp := tk_put (o := .lst (acc ++ [.ref tq])) e5 ntL
        refine ⟨(btc.trans (Bt.of u5)).trans (Bt.put (.inr rfl)), ?_, ⟨ps ++ [(nm, k')], _, upd_same, ?_, ?_, ?_⟩, z, o6, o7, o8, rfl⟩
        · obtain ⟨x, y, e, q1, q2⟩ := hfd4.same u5
          exact ⟨x, y, (upd_ne fpl).trans e, q1, q2⟩
        · rw [List.map_append]
          exact ((iacc4.mono (Tk.of u5)).append (ImL.one (Im.tup etq (.cons (.str _) (.cons (.str _) .nil))))).mono tkp
        · rw [List.map_append, hps, take_snoc hnm]
          rfl
        · intro p hp
          rcases List.mem_append.mp hp with q | q
          · exact hkps p q
          · have := List.mem_singleton.mp q
            subst this
            exact hk'
      refine ⟨_, rfl, _, rfl, ks, k, 4, ⟨l, kxs, rfl, hl2, ik⟩, rfl, by decide, lv, gk.num hns, (fun kd hk => Nat.le_succ_of_le (gk.few kd hk)), fun H5 z1 u3 => ?_⟩
      refine ⟨_, rfl, _, _, rfl, rfl, _, rfl, ?_⟩
      by_cases hz : z < z1
      · rw [decide_eq_true hz]
        refine iteT ?_
        refine ⟨_, rfl, _, rfl, _, rfl, ks, ("num" : Str), 4, ⟨l, kxs, rfl, u3 _ _ hl2, ik.mono (Tk.of u3)⟩, rfl, by decide, LvK.num 4, gk.num hns, (fun kd hk => Nat.le_succ_of_le (gk.few kd hk)), fun H6 z2 u6 => ⟨_, _, rfl, rfl, ?_⟩⟩
        refine ⟨_, rfl, .inl ⟨rfl, _, SqL.of (u6 _ _ (u3 _ _ hpl2))⟩, _, rfl, _, rfl, np, _, _, _, rfl, rfl, SqL.of (u6 _ _ (u3 _ _ hnp2)), (by rw [Int.zero_add]; exact atI_nat hnmV), _, rfl, le_size (by show 2 ≤ 100000; decide), fun tq htq => ?_⟩
        have u7 := same_new (o := .tup [.str nm, .str "num"]) htq
        have u37 := (u3.trans u6).trans u7
        refine ⟨pl, _, _, rfl, rfl, u37 _ _ hpl2, lt_size (by omega), ?_⟩
        obtain ⟨n1, n2, n3, _⟩ := next _ "num" u37 (.inl rfl) tq upd_same 0 none none none
        exact ⟨n1, n2, n3, _, _, _, _, rfl⟩
      · rw [decide_eq_false hz]
        refine iteF ?_
        refine ⟨_, rfl, _, rfl, _, rfl, ks, k, 4, ⟨l, kxs, rfl, u3 _ _ hl2, ik.mono (Tk.of u3)⟩, rfl, by decide, lv, gk.num hns, (fun kd hk => Nat.le_succ_of_le (gk.few kd hk)), fun H6 z2 u6 => ⟨_, _, rfl, rfl, ?_⟩⟩
        refine ⟨_, rfl, .inl ⟨rfl, _, SqL.of (u6 _ _ (u3 _ _ hpl2))⟩, _, rfl, _, rfl, np, _, _, _, rfl, rfl, SqL.of (u6 _ _ (u3 _ _ hnp2)), (by rw [Int.zero_add]; exact atI_nat hnmV), _, rfl, le_size (by show 2 ≤ 100000; decide), fun tq htq => ?_⟩
        have u7 := same_new (o := .tup [.str nm, .str k]) htq
        have u37 := (u3.trans u6).trans u7
        refine ⟨pl, _, _, rfl, rfl, u37 _ _ hpl2, lt_size (by omega), ?_⟩
        obtain ⟨n1, n2, n3, _⟩ := next _ k u37 hkn tq upd_same 0 none none none
        exact ⟨n1, n2, n3, _, _, _, _, rfl⟩
    · rintro σ H' ⟨bt, hfd, ⟨ps, acc, hacc, iacc, hps, hkps⟩, z, o6, o7, o8, rfl⟩
      refine ⟨_, rfl, _, rfl, pl, _, rfl, SqL.of hacc, fun zz hzz => ⟨_, _, rfl, SqL.of upd_same, fun l' o hl ho => ?_⟩⟩
      exact loopEnd H' ps acc bt hfd hacc iacc n hps hn4 hal1 hkps zz hzz l' o hl ho
end
end SwK
set_option maxHeartbeats 8000000
/-! the builder: kinds -/
namespace SwK
open PySem PySem.Spec PyProof.Rows L2
def spBoxed : Sp := sp2 fun a b H Q => ∃ fp sp xs, a = .ref fp ∧ Feed H fp ∧ b = .ref sp ∧ NmAt H sp xs ∧ xs ≠ [] ∧ xs.length ≤ 1000 ∧ ∀ H' r x, FB fp H H' → x ∈ xs → Im H' (.ref r) (boxD x) → Q (.ref r) H'
def spAnyK : Sp := sp2 fun a b H Q => ∃ fp ks, a = .ref fp ∧ Feed H fp ∧ Im H b (kindsD ks) ∧ ks.length ≤ 4 ∧ ∀ H' k, FB fp H H' → Knows ks k → Q (.str k) H'
theorem cut_nm {l : List Str} {a b : Nat} (e1 : HT.sIx l.length 0 (some (a : Int)) = a) (e2 : HT.sIx l.length l.length (some (b : Int)) = b) : cutV (l.map V.str) (some (a : Int)) (some (b : Int)) = ((l.drop a).take (b - a)).map V.str := by
  unfold cutV
  rw [List.length_map, e1, e2, List.map_take, List.map_drop]
section
variable {P : Program} {w : World} {K : PySem.W.Frag} {mg : Str → Option Value} {base : Heap}
/- _law_boxed: slots 0 _law_feed_here 1 _law_some -/
theorem sc_law_boxed : FnScope ["_law_feed_here", "_law_some"] ["_law_feed_here", "_law_some"] (defScope s_law_boxed) := ⟨rfl, rfl, rfl, by decide +kernel, rfl, by decide +kernel, by decide +kernel⟩
theorem ok_law_boxed (T : Txt K mg) (c_law_take : C8.Cal P w K mg base 1 "_law_take" spTake []) : C8.Cal P w K mg base 2 "_law_boxed" spBoxed [] := by
  refine mkCal (f_law_boxed T) (g_law_boxed T) sc_law_boxed (fun _ _ _ _ _ _ us hl => match us, hl with | [_, _], _ => rfl) (fun vs H Q E h => ?_) (fun vs H Q E h => ?_)
  · obtain ⟨a, b, rfl, _⟩ := sp2_len h
    rfl
  obtain ⟨a, b, rfl, h⟩ := sp2_len h
  intro cdv A outer s E hr
  have hu := hu_of hr
  obtain ⟨fp, sp, xs, rfl, hf, rfl, hs, hne, hlen, k1⟩ := h
  have hpos := List.length_pos_iff.mpr hne
  refine ⟨_, (pss_one (ps_ret (pe_tup (pa_cons pe_str (pa_cons (pe_ix ix_list (pv 1) (C8.pe_c c_law_take hr (by omega) rfl (pa_cons (pv 0) (pa_cons (pe_callB call_len rfl (z_len T) PySem.boot_len (pa_cons (pv 1) pa_nil)) pa_nil))) (fun _ _ => rfl)) pa_nil))))), ?_⟩
  refine ⟨_, rfl, _, rfl, _, rfl, _, _, rfl, .inl ⟨_, SqL.of hs, rfl⟩, fp, _, rfl, hf, rfl, (by rw [List.length_map]; omega), (by rw [List.length_map]; omega), fun H1 d h1 h2 b1 => ?_⟩
  rw [List.length_map] at h2
  have hi : d.toNat < xs.length := by omega
  have hd : d = ((d.toNat : Nat) : Int) := by omega
  refine ⟨sp, _, _, _, rfl, rfl, SqL.of (hs.fb hf b1), (by rw [hd]; exact atI_nat (by rw [List.getElem?_map, List.getElem?_eq_getElem hi]; rfl)), le_size (by show 2 ≤ 100000; decide), fun r hr => ?_⟩
  exact k1 _ r _ (b1.andS (same_new hr)) (List.getElem_mem hi) (im_new hr (.cons (.str _) (.cons (.str _) .nil)))
/- _law_any_kind: slots 0 _law_feed_here 1 _law_kinds_here 2 _law_row -/
theorem sc_law_any_kind : FnScope ["_law_feed_here", "_law_kinds_here", "_law_row"] ["_law_feed_here", "_law_kinds_here"] (defScope s_law_any_kind) := ⟨rfl, rfl, rfl, by decide +kernel, rfl, by decide +kernel, by decide +kernel⟩
theorem ok_law_any_kind (T : Txt K mg) (c_law_take : C8.Cal P w K mg base 1 "_law_take" spTake []) : C8.Cal P w K mg base 2 "_law_any_kind" spAnyK [] := by
  refine mkCal (f_law_any_kind T) (g_law_any_kind T) sc_law_any_kind (fun _ _ _ _ _ _ us hl => match us, hl with | [_, _], _ => rfl) (fun vs H Q E h => ?_) (fun vs H Q E h => ?_)
  · obtain ⟨a, b, rfl, _⟩ := sp2_len h
    rfl
  obtain ⟨a, b, rfl, h⟩ := sp2_len h
  intro cdv A outer s E hr
  have hu := hu_of hr
  obtain ⟨fp, ks, rfl, hf, hk, hkl, k1⟩ := h
  obtain ⟨l, kxs, rfl, el, ik⟩ := im_tup hk
  have hkxl : kxs.length = ks.length := by rw [ik.length, List.length_map]
  refine ⟨_, (pss_one (ps_ret (pe_ix ix_list (pe_op op_cat (pe_lst (pa_cons pe_str pa_nil)) (pe_lc (own := [("_law_row", 2)]) rfl sc_law_any_kind.nd (pi_tup (pv 1)) (blkOk_by (N := ["_law_feed_here", "_law_kinds_here", "_law_row"]) (sc := defScope s_law_any_kind) (by decide +kernel)) (fun _ _ _ _ _ => (pg_name (i := 2) sc_law_any_kind.nd rfl (by first | exact .inl rfl | exact .inr rfl))) (fun _ _ _ _ _ => pts_nil) (fun _ _ _ _ _ => (pe_ix (ixT (K := K) rfl) (pv 2) pe_int (fun _ _ => rfl))))) (C8.pe_c c_law_take hr (by omega) rfl (pa_cons (pv 0) (pa_cons (pe_op op_add pe_int (pe_callB call_len rfl (z_len T) PySem.boot_len (pa_cons (pv 1) pa_nil))) pa_nil))) (fun _ _ => rfl)))), ?_⟩
  refine ⟨le_size (by show 1 ≤ 100000; decide), fun ql hql => ?_⟩
  have v1 : Same H (upd H ql (.lst [.str "num"])) := same_new hql
  have eql : upd H ql (.lst [.str "num"]) ql = some (.lst [.str "num"]) := upd_same
  generalize upd H ql (.lst [.str "num"]) = Hq at v1 eql ⊢
  refine ⟨_, rfl, l, rfl, ⟨_, SqT.of (v1 _ _ el)⟩, fun D hD => lc_tup (K := K) (a := l) (xs := kxs) (fun i H2 => Same Hq H2 ∧ H2 D = some (.lst (((ks.take i).map (·.name)).map V.str))) ⟨same_new hD, upd_same⟩ (fun i H2 _ q => SqT.of (q.1 _ _ (v1 _ _ el))) (fun i x H2 hx q => ?_) (fun H2 q => ?_)⟩
  · obtain ⟨t1, ht⟩ := q
    obtain ⟨kd, hkd, ix⟩ := iml_map ik hx
    obtain ⟨qa, y1, y2, y3, rfl, eqa, i1, i2, i3⟩ := im3 (ix.mono (Tk.of (v1.trans t1)))
    cases im_str i1
    refine ⟨rfl, lcY (iteT ⟨_, rfl, qa, _, _, _, rfl, rfl, SqT.of eqa, at0, _, ht, ?_, same_put t1 hD, ?_⟩)⟩
    · rw [List.length_map, List.length_map, List.length_take]
      exact lt_size (by omega)
    · rw [upd_same, take_snoc hkd, List.map_append, List.map_append]
      rfl
  obtain ⟨t1, ht⟩ := q
  rw [hkxl, List.take_length] at ht
  have v2 := v1.trans t1
  refine ⟨ql, D, _, _, rfl, rfl, t1 _ _ eql, ht, le_size (by rw [List.length_map, List.length_map]; show 1 + _ ≤ _; omega), fun cp hcp => ?_⟩
  have v3 : Same H2 (upd H2 cp (.lst ([.str "num"] ++ (ks.map (·.name)).map V.str))) := same_new hcp
  have ecp : upd H2 cp (.lst ([.str "num"] ++ (ks.map (·.name)).map V.str)) cp = some (.lst ((("num" : Str) :: ks.map (·.name)).map V.str)) := upd_same
  generalize upd H2 cp (.lst ([.str "num"] ++ (ks.map (·.name)).map V.str)) = Hc at v3 ecp ⊢
  have v4 := v2.trans v3
  have hfc := hf.same v4
  refine ⟨_, rfl, _, rfl, _, _, rfl, .inr ⟨_, SqT.of (v4 _ _ el), rfl⟩, _, _, rfl, rfl, fp, _, rfl, hfc, rfl, (by omega), (by rw [hkxl]; omega), fun H4 d g1 g2 bb => ?_⟩
  have hidx : d.toNat < (("num" : Str) :: ks.map (·.name)).length := by
    rw [List.length_cons, List.length_map]
    rw [hkxl] at g2
    omega
  obtain ⟨k, hk⟩ : ∃ k, (("num" : Str) :: ks.map (·.name))[d.toNat]? = some k := ⟨_, List.getElem?_eq_getElem hidx⟩
  have hkn : Knows ks k := by
    rcases List.mem_cons.mp (List.mem_of_getElem? hk) with q | q
    · exact .inl q
    · exact .inr q
  have hkV : atI ((("num" : Str) :: ks.map (·.name)).map V.str) d = some (.str k) := by
    have e : d = ((d.toNat : Nat) : Int) := by omega
    rw [e]
    refine atI_nat ?_
    rw [List.getElem?_map, hk]
    rfl
  exact ⟨cp, _, _, _, rfl, rfl, SqL.of (bb.ne ecp (feed_ne hfc ecp nm_noint)), hkV, k1 _ _ ((FB.same hf v4).trans bb) hkn⟩
/- _law_kinds: slots 0 _law_feed_here 1 _law_names_here 2 _law_kinds_here 3 _law_k 4 _law_sort -/
theorem sc_law_kinds : FnScope ["_law_feed_here", "_law_names_here", "_law_kinds_here", "_law_k", "_law_sort"] ["_law_feed_here", "_law_names_here"] (defScope s_law_kinds) := ⟨rfl, rfl, rfl, by decide +kernel, rfl, by decide +kernel, by decide +kernel⟩
theorem ok_law_kinds (T : Txt K mg) (c_law_take : C8.Cal P w K mg base 1 "_law_take" spTake []) (c_law_parts : C8.Cal P w K mg base 8 "_law_parts" spParts []) : C8.Cal P w K mg base 9 "_law_kinds" spKinds [] := by
  refine mkCal (f_law_kinds T) (g_law_kinds T) sc_law_kinds (fun _ _ _ _ _ _ us hl => match us, hl with | [_, _], _ => rfl) (fun vs H Q E h => ?_) (fun vs H Q E h => ?_)
  · obtain ⟨a, b, rfl, _⟩ := sp2_len h
    rfl
  obtain ⟨a, b, rfl, h⟩ := sp2_len h
  intro cdv A outer s E hr
  have hu := hu_of hr
  obtain ⟨fp, np, ns, rfl, hf, rfl, hnp, hns, k1⟩ := h
  refine ⟨_, (pss_cons (ps_set (i := 2) sc_law_kinds.nd rfl (by first | exact .inl rfl | exact .inr rfl) (pe_lst pa_nil))
        (pss_cons (ps_for PassesOwn.never rfl (pi_range1 rfl (z_range T) (pa_cons (C8.pe_c c_law_take hr (by omega) rfl (pa_cons (pv 0) (pa_cons pe_int pa_nil))) pa_nil)) (pg_name (i := 3) sc_law_kinds.nd rfl (by first | exact .inl rfl | exact .inr rfl)) (pss_cons (ps_set (i := 4) sc_law_kinds.nd rfl (by first | exact .inl rfl | exact .inr rfl) (pe_ix ix_list (pe_lst (pa_cons pe_str (pa_cons pe_str pa_nil))) (C8.pe_c c_law_take hr (by omega) rfl (pa_cons (pv 0) (pa_cons pe_int pa_nil))) (fun _ _ => rfl)))
        (pss_one (ps_expr (pe_bm PySem.F.plainAttrs_list PySem.F.slot_list_append PySem.F.type_list_append mt_append (pv 2) (pa_cons (pe_tup (pa_cons (pe_ix ix_list (pv 1) (pv 3) (fun _ _ => rfl)) (pa_cons (pv 4) (pa_cons (C8.pe_c c_law_parts hr (by omega) rfl (pa_cons (pv 0) (pa_cons (pv 2) (pa_cons (pv 4) (pa_cons (pe_slice sl_list (pv 1) (po_some pe_int) (po_some pe_int)) pa_nil))))) pa_nil)))) pa_nil))))))
        (pss_one (ps_ret (pe_callTy call_tuple_of rfl (z_tuple T) (by decide +kernel) (pa_cons (pv 2) pa_nil)))))), ?_⟩
  refine ⟨le_size (by show 0 ≤ 100000; decide), fun kl hkl => ?_⟩
  have s1 : Same H (upd H kl (.lst [])) := same_new hkl
  have ekl : upd H kl (.lst []) kl = some (.lst []) := upd_same
  have hf1 := hf.same s1
  have nkl : ∀ {z : Addr} {o : HO}, H z = some o → z ≠ kl := fun h e => by rw [e, hkl] at h; cases h
  have fkl : fp ≠ kl := by
    obtain ⟨x, y, e, _⟩ := hf
    exact nkl e
  have nnf : np ≠ fp := feed_ne hf hnp nm_noint
  have nnk : np ≠ kl := nkl hnp
  have ntk : ∀ {H' : Hp}, Bt (fun a => a = fp ∨ a = kl) H H' → Tk H H' := fun bt => bt.tk fun a o ea e => by
    rcases ea with q | q
    · obtain ⟨x, y, e', _⟩ := hf
      rw [q, e'] at e
      cases e
      exact ntL
    · rw [q, hkl] at e
      cases e
  generalize upd H kl (.lst []) = H1 at s1 ekl hf1 ⊢
  refine ⟨_, rfl, fp, 5, rfl, hf1, rfl, by decide, by decide, fun H2 d1 h1 h2 b1 => ?_⟩
  obtain ⟨n, rfl⟩ : ∃ n : Nat, d1 = (n : Int) := ⟨d1.toNat, by omega⟩
  refine ⟨_, rfl, by omega, by omega, ?_⟩
  rw [Int.toNat_natCast]
  have gk0 : GK ns [] := ⟨rfl, (fun kd h => by cases h), (fun kd h => by cases h), (fun kd h => by cases h), (fun i kd h => by simp at h)⟩
  refine for_range (fun j σ H' => Bt (fun a => a = fp ∨ a = kl) H H' ∧ Feed H' fp ∧ (∃ (ks : List Kd) (acc : List V), H' kl = some (.lst acc) ∧ ImL H' acc (ks.map Kd.d) ∧ GK ns ks ∧ ks.length = j) ∧ ∃ (o3 o4 : Option V), σ = [some (.ref fp), some (.ref np), some (.ref kl), o3, o4]) ⟨?_, b1.fd, ⟨[], [], b1.ne ekl (Ne.symm fkl), .nil, gk0, rfl⟩, _, _, rfl⟩ ?_ ?_
  · intro a o e na
    exact b1.bt _ _ (s1 _ _ e) fun q => na (.inl q)
  · rintro j σ H' hj ⟨bt, hfd, ⟨ks, acc, hacc, iacc, gk, hkj⟩, o3, o4, rfl⟩
    have hacl : acc.length = j := by rw [iacc.length, List.length_map]; exact hkj
    have enp' : NmAt H' np ns := bt _ _ hnp (by rintro (q | q); exact nnf q; exact nnk q)
    obtain ⟨nm, hnm⟩ : ∃ nm, ns[j]? = some nm := ⟨ns[j]'(by have := hns.len; omega), by simp⟩
    have hnmV : (ns.map V.str)[j]? = some (V.str nm) := by rw [List.getElem?_map, hnm]; rfl
    refine ⟨le_size (by show 2 ≤ 100000; decide), fun ql hql => ?_⟩
    have v1 : Same H' (upd H' ql (.lst [.str "rec", .str "alt"])) := same_new hql
    have eql : upd H' ql (.lst [.str "rec", .str "alt"]) ql = some (.lst ([("rec" : Str), "alt"].map V.str)) := upd_same
    generalize upd H' ql (.lst [.str "rec", .str "alt"]) = Hq at v1 eql ⊢
    have hfq := hfd.same v1
    refine ⟨_, rfl, fp, 2, rfl, hfq, rfl, by decide, by decide, fun H3 d g1 g2 b3 => ?_⟩
    obtain ⟨al, hal⟩ : ∃ al : Bool, atI ([("rec" : Str), "alt"].map V.str) d = some (.str (sortS al)) := by
      by_cases q : d = 0
      · subst q
        exact ⟨false, at0⟩
      · have : d = 1 := by omega
        subst this
        exact ⟨true, at1⟩
    refine ⟨ql, _, _, _, rfl, rfl, SqL.of (b3.ne eql (feed_ne hfq eql nm_noint)), hal, ?_⟩
    have b13 := (FB.same hfd v1).trans b3
    have hk3 : H3 kl = some (.lst acc) := b13.ne hacc (Ne.symm fkl)
    have hn3 : NmAt H3 np ns := b13.ne enp' nnf
    refine ⟨_, rfl, .inl ⟨rfl, _, SqL.of hk3⟩, _, rfl, _, rfl, np, _, _, _, rfl, rfl, SqL.of hn3, (by rw [Int.zero_add]; exact atI_nat hnmV), _, rfl, _, rfl, _, rfl, _, rfl, _, rfl, _, rfl, _, rfl, np, _, rfl, SqL.of hn3, fun sp hsp => ?_⟩
    have ecut : cutV (ns.map V.str) (some 8) (some 12) = ((ns.drop 8).take 4).map V.str := by
      refine cut_nm (a := 8) (b := 12) ?_ ?_
      · rw [hns.len]
        decide
      · rw [hns.len]
        decide
    rw [ecut]
    have v4 : Same H3 (upd H3 sp (.lst (((ns.drop 8).take 4).map V.str))) := same_new hsp
    have esp : upd H3 sp (.lst (((ns.drop 8).take 4).map V.str)) sp = some (.lst (((ns.drop 8).take 4).map V.str)) := upd_same
    generalize upd H3 sp (.lst (((ns.drop 8).take 4).map V.str)) = H4 at v4 esp ⊢
    have b14 := b13.andS v4
    refine ⟨fp, ns, ks, al, sp, (ns.drop 8).take 4, rfl, b14.fd, hns, gk, by omega, ⟨kl, acc, rfl, v4 _ _ hk3, iacc.mono (b14.tk hfd)⟩, rfl, rfl, esp, (by rw [List.length_take, List.length_drop, hns.len]; rfl), (List.Sublist.nodup ((List.take_sublist _ _).trans (List.drop_sublist _ _)) hns.nd), fun H5 r ps b5 ir p1 p2 p3 p4 => ?_⟩
    refine ⟨le_size (by show 3 ≤ 100000; decide), fun tq htq => ?_⟩
    have v6 : Same H5 (upd H5 tq (.tup [.str nm, .str (sortS al), .ref r])) := same_new htq
    have etq : Im (upd H5 tq (.tup [.str nm, .str (sortS al), .ref r])) (.ref tq) (Kd.d ⟨nm, al, ps⟩) := im_new htq (.cons (.str _) (.cons (.str _) (.cons ir .nil)))
    generalize upd H5 tq (.tup [.str nm, .str (sortS al), .ref r]) = H6 at v6 etq ⊢
    have b16 := (b14.trans b5).andS v6
    have hk6 : H6 kl = some (.lst acc) := b16.ne hacc (Ne.symm fkl)
    refine ⟨kl, _, _, rfl, rfl, hk6, lt_size (by omega), ?_⟩
    have tkp := tk_put (o := .lst (acc ++ [.ref tq])) hk6 ntL
    refine ⟨(bt.trans fun a o e na => b16.bt _ _ e fun q => na (.inl q)).trans (Bt.put (.inr rfl)), ?_, ⟨ks ++ [⟨nm, al, ps⟩], _, upd_same, ?_, gk.snoc hns (by omega) (by rw [hkj]; exact hnm) p1 p2 p3 p4, by rw [List.length_append, hkj]; rfl⟩, _, _, rfl⟩
    · obtain ⟨x, y, e, q1, q2⟩ := b16.fd
      exact ⟨x, y, (upd_ne fkl).trans e, q1, q2⟩
    · rw [List.map_append]
      exact ((iacc.mono (b16.tk hfd)).append (ImL.one etq)).mono tkp
  · rintro σ H' ⟨bt, hfd, ⟨ks, acc, hacc, iacc, gk, hkj⟩, o3, o4, rfl⟩
    refine ⟨_, rfl, kl, acc, rfl, .inl ⟨SqL.of hacc, fun r hr => ?_⟩⟩
    have sr : Same H' (upd H' r (.tup acc)) := same_new hr
    refine k1 _ r ks ⟨fun a o e na => ?_, hfd.same sr⟩ (im_new hr iacc) gk (by omega)
    have na : a ≠ fp := na
    exact sr _ _ (bt _ _ e (by rintro (q | q); exact na q; exact nkl e q))
end
end SwK
set_option maxHeartbeats 8000000
/-! the builder: terms -/
namespace SwK
open PySem PySem.Spec PyProof.Rows L2
theorem Tm.succ {ks : List Kd} : ∀ {n : Nat} {Γ : List (Str × Str)} {k : Str} {d : Da}, Tm ks n Γ k d → Tm ks (n + 1) Γ k d
  | 0, _, _, _, h => h.elim
  | n + 1, Γ, k, d, h => by
    rcases h with h | h | ⟨s, a, b, rfl, rfl, ha, hb⟩ | ⟨es, kd, rfl, hk, hal, hp⟩ | ⟨a, f, k', kd, rfl, ha, hk, hal, hf⟩ | ⟨t, p, e1, kd, rfl, hk, hal, ht, he⟩ | ⟨a, arms, k', kd, rfl, ha, hk, hal, h1, h2⟩ | ⟨c, a, b, rfl, hc, ha, hb⟩
    · exact .inl h
    · exact .inr (.inl h)
    · exact .inr (.inr (.inl ⟨s, a, b, rfl, rfl, ha.succ, hb.succ⟩))
    · exact .inr (.inr (.inr (.inl ⟨es, kd, rfl, hk, hal, pairedImp hp fun p _ e h => Tm.succ h⟩)))
    · exact .inr (.inr (.inr (.inr (.inl ⟨a, f, k', kd, rfl, ha.succ, hk, hal, hf⟩))))
    · exact .inr (.inr (.inr (.inr (.inr (.inl ⟨t, p, e1, kd, rfl, hk, hal, ht, he.succ⟩)))))
    · refine .inr (.inr (.inr (.inr (.inr (.inr (.inl ⟨a, arms, k', kd, rfl, ha.succ, hk, hal, fun m hm => ?_, h2⟩))))))
      obtain ⟨t, y, e, p, q1, q2, q3, q4⟩ := h1 m hm
      exact ⟨t, y, e, p, q1, q2, q3, Tm.succ q4⟩
    · exact .inr (.inr (.inr (.inr (.inr (.inr (.inr ⟨c, a, b, rfl, hc.succ, ha.succ, hb.succ⟩))))))
theorem Tm.mono {ks : List Kd} {n m : Nat} {Γ : List (Str × Str)} {k : Str} {d : Da} (h : Tm ks n Γ k d) (hm : n ≤ m) : Tm ks m Γ k d := by
  induction hm with
  | refl => exact h
  | step _ ih => exact ih.succ
def byN (j : Nat) : Str := ⟨#[98, 121, 97 + j]⟩
/-- the boxes at hand -/
structure GamOk (ks : List Kd) (Γ : List (Str × Str)) (deep : Nat) : Prop where
  nd : (Γ.map (·.1)).Nodup
  lev : ∀ p ∈ Γ, LvK ks 4 p.2
  few : Γ.length + deep ≤ 20
  fresh : ∀ j, j ≤ deep → ¬ byN j ∈ Γ.map (·.1)
def GmAt (H : Hp) (bp : Addr) (Γ : List (Str × Str)) : Prop := ∃ xs, H bp = some (.lst xs) ∧ ImL H xs (Γ.map pairD)
theorem pairs_noint {Γ : List (Str × Str)} : ∀ d ∈ Γ.map pairD, ∀ i, d ≠ .int i := fun d hd i e => by
  obtain ⟨p, _, rfl⟩ := List.mem_map.mp hd
  cases e
theorem GmAt.fb {fp bp : Addr} {H H' : Hp} {Γ : List (Str × Str)} (hf : Feed H fp) (b : FB fp H H') (h : GmAt H bp Γ) : GmAt H' bp Γ := by
  obtain ⟨xs, e, i⟩ := h
  exact ⟨xs, b.ne e (feed_ne hf e (iml_noint i pairs_noint)), i.mono (b.tk hf)⟩
theorem GmAt.same {bp : Addr} {H H' : Hp} {Γ : List (Str × Str)} (s : Same H H') (h : GmAt H bp Γ) : GmAt H' bp Γ := by
  obtain ⟨xs, e, i⟩ := h
  exact ⟨xs, s _ _ e, i.mono (Tk.of s)⟩
/-- what a term's making asks -/
def spTerm (M : Nat) : Sp := sp6 fun a b c d e g H Q => ∃ fp ks bp Γ k room deep n, a = .ref fp ∧ Feed H fp ∧ Im H b (kindsD ks) ∧ KsOk ks ∧ c = .ref bp ∧ GmAt H bp Γ ∧ GamOk ks Γ deep ∧ d = .str k ∧ LvK ks n k ∧ n ≤ 4 ∧ e = .int room ∧ (smallN ks 4 k : Int) ≤ room ∧ g = .int (deep : Nat) ∧ deep ≤ 2 ∧ deep * 5 + n < M ∧
  ∀ H' r t, FB fp H H' → Im H' (.ref r) t → Tm ks (deep + n + 2) Γ k t → Q (.ref r) H'
def spArms (M : Nat) : Sp := sp7 fun a b c d e g i H Q => ∃ (fp : Addr) (ks : List Kd) (bp : Addr) (Γ : List (Str × Str)) (kd : Kd) (k : Str) (room : Int) (deep n : Nat), a = .ref fp ∧ Feed H fp ∧ Im H b (kindsD ks) ∧ KsOk ks ∧ c = .ref bp ∧ GmAt H bp Γ ∧ GamOk ks Γ (deep + 1) ∧ Im H d (partsD kd.parts) ∧ kd.parts ≠ [] ∧ (kd.parts.length ≤ 5) ∧ (∀ p ∈ kd.parts, LvK ks 4 p.2) ∧
  e = .str k ∧ LvK ks n k ∧ n ≤ 4 ∧ g = .int room ∧ (smallN ks 4 k : Int) * (kd.parts.length : Int) ≤ room ∧ i = .int ((deep + 1 : Nat) : Int) ∧ deep ≤ 1 ∧ deep * 5 + n < M ∧
  ∀ H' r arms, FB fp H H' → Im H' (.ref r) (.tup arms) → (∀ m ∈ arms, ∃ t y e p, m = Da.tup [.str t, .str y, e] ∧ (t, p) ∈ kd.parts ∧ ¬ y ∈ Γ.map (·.1) ∧ Tm ks (deep + n + 2) (Γ ++ [(y, p)]) k e) → (∀ t p, (t, p) ∈ kd.parts → ∃ y e, Da.tup [.str t, .str y, e] ∈ arms) → Q (.ref r) H'
theorem by_str : ∀ d : Nat, d ≤ 2 → ∃ c, atI ("abcdefgh" : Str).cps.toList (d : Int) = some c ∧ (("by" : Str) ++ (⟨#[c]⟩ : Str)) = byN d
  | 0, _ => ⟨97, rfl, rfl⟩
  | 1, _ => ⟨98, rfl, rfl⟩
  | 2, _ => ⟨99, rfl, rfl⟩
  | n + 3, h => absurd h (by omega)
theorem byN_inj {i j : Nat} (h : byN i = byN j) : i = j := by
  have h1 : (byN i).cps = (byN j).cps := congrArg _ h
  have h2 := congrArg Array.toList h1
  injection h2 with _ h2
  injection h2 with _ h2
  injection h2 with h2 _
  have h3 : 97 + i = 97 + j := h2
  omega
section
variable {P : Program} {w : World} {K : PySem.W.Frag} {mg : Str → Option Value} {base : Heap}
/- _law_arms: slots 0 _law_feed_here 1 _law_kinds_here 2 _law_boxes_here 3 _law_parts_here 4 _law_kind 5 _law_room 6 _law_deep 7 _law_arms_here 8 _law_each 9 _law_t 10 _law_part 11 _law_x -/
theorem sc_law_arms : FnScope ["_law_feed_here", "_law_kinds_here", "_law_boxes_here", "_law_parts_here", "_law_kind", "_law_room", "_law_deep", "_law_arms_here", "_law_each", "_law_t", "_law_part", "_law_x"] ["_law_feed_here", "_law_kinds_here", "_law_boxes_here", "_law_parts_here", "_law_kind", "_law_room", "_law_deep"] (defScope s_law_arms) := ⟨rfl, rfl, rfl, by decide +kernel, rfl, by decide +kernel, by decide +kernel⟩
theorem ok_law_arms (T : Txt K mg) {M L : Nat} (hL : 3 ≤ L) (c_law_take : C8.Cal P w K mg base 1 "_law_take" spTake []) (c_law_term : C8.Cal P w K mg base L "_law_term" (spTerm M) []) : C8.Cal P w K mg base (L + 1) "_law_arms" (spArms M) [] := by
  refine mkCal (f_law_arms T) (g_law_arms T) sc_law_arms (fun _ _ _ _ _ _ us hl => match us, hl with | [_, _, _, _, _, _, _], _ => rfl) (fun vs H Q E h => ?_) (fun vs H Q E h => ?_)
  · obtain ⟨a, b, c, d, e, g, i, rfl, _⟩ := sp7_len h
    rfl
  obtain ⟨a, b, c, d, e, g, i, rfl, h⟩ := sp7_len h
  intro cdv A outer s E hr
  have hu := hu_of hr
  obtain ⟨fp, ks, bp, Γ, kd, k, room, deep, n, rfl, hf, hks, ok, rfl, hg, hga, hpa, hpne, hpf, hplv, rfl, hl, hn4, rfl, hroom, rfl, hd1, hM, k1⟩ := h
  obtain ⟨pa, po, pxs, rfl, ep, _, ip⟩ := im_pt hpa
  have hpxl : pxs.length = kd.parts.length := by rw [ip.length, List.length_map]
  have hpos : 0 < kd.parts.length := List.length_pos_iff.mpr hpne
  refine ⟨_, (pss_cons (ps_set (i := 7) sc_law_arms.nd rfl (by first | exact .inl rfl | exact .inr rfl) (pe_lst pa_nil))
        (pss_cons (ps_set (i := 8) sc_law_arms.nd rfl (by first | exact .inl rfl | exact .inr rfl) (pe_op op_fdiv (pv 5) (pe_callB call_len rfl (z_len T) PySem.boot_len (pa_cons (pv 3) pa_nil))))
        (pss_cons (ps_for PassesOwn.never rfl (pi_tup (pv 3)) (pg_tup rfl (pgs_cons (pg_name (i := 9) sc_law_arms.nd rfl (by first | exact .inl rfl | exact .inr rfl)) (pgs_cons (pg_name (i := 10) sc_law_arms.nd rfl (by first | exact .inl rfl | exact .inr rfl)) pgs_nil))) (pss_cons (ps_set (i := 11) sc_law_arms.nd rfl (by first | exact .inl rfl | exact .inr rfl) (pe_op op_add_str pe_str (pe_ix ix_str pe_str (pv 6) (fun _ _ => rfl))))
        (pss_one (ps_expr (pe_bm PySem.F.plainAttrs_list PySem.F.slot_list_append PySem.F.type_list_append mt_append (pv 7) (pa_cons (pe_tup (pa_cons (pv 9) (pa_cons (pv 11) (pa_cons (C8.pe_c c_law_term hr (by omega) rfl (pa_cons (pv 0) (pa_cons (pv 1) (pa_cons (pe_op op_cat (pv 2) (pe_lst (pa_cons (pe_tup (pa_cons (pv 11) (pa_cons (pv 10) pa_nil))) pa_nil))) (pa_cons (pv 4) (pa_cons (pv 8) (pa_cons (pe_op op_sub (pv 6) pe_int) pa_nil))))))) pa_nil)))) pa_nil))))))
        (pss_cons (ps_if (pt_cmpR op_eq (C8.pe_c c_law_take hr (by omega) rfl (pa_cons (pv 0) (pa_cons pe_int pa_nil))) pe_int (nomark _)) (pss_one (ps_expr (pe_bm0 PySem.F.plainAttrs_list PySem.F.slot_list_reverse PySem.F.type_list_reverse mt_reverse (pv 7)))) pss_nil)
        (pss_one (ps_ret (pe_callTy call_tuple_of rfl (z_tuple T) (by decide +kernel) (pa_cons (pv 7) pa_nil)))))))), ?_⟩
  refine ⟨le_size (by show 0 ≤ 100000; decide), fun al hal => ?_⟩
  have s1 : Same H (upd H al (.lst [])) := same_new hal
  have eal : upd H al (.lst []) al = some (.lst []) := upd_same
  have nal : ∀ {z : Addr} {o : HO}, H z = some o → z ≠ al := fun h e => by rw [e, hal] at h; cases h
  have fal : fp ≠ al := by
    obtain ⟨x, y, e, _⟩ := hf
    exact nal e
  generalize upd H al (.lst []) = H1 at s1 eal ⊢
  obtain ⟨gxs, eg, ig⟩ := hg
  have ngf : bp ≠ fp := feed_ne hf eg (iml_noint ig pairs_noint)
  have nga : bp ≠ al := nal eg
  have ntk : ∀ {H' : Hp}, Bt (fun a => a = fp ∨ a = al) H H' → Tk H H' := fun bt => bt.tk fun a o ea e => by
    rcases ea with q | q
    · obtain ⟨x, y, e', _⟩ := hf
      rw [q, e'] at e
      cases e
      exact ntL
    · rw [q, hal] at e
      cases e
  refine ⟨_, rfl, _, rfl, _, _, rfl, .inr ⟨_, sqT_frz (s1 _ _ ep), rfl⟩, _, _, rfl, rfl, ⟨(by rw [hpxl]; omega), (by rw [hpxl]; omega)⟩, ?_⟩
  rw [hpxl]
  have heach : (smallN ks 4 k : Int) ≤ room / (kd.parts.length : Int) := (Int.le_ediv_iff_mul_le (by omega)).mpr hroom
  obtain ⟨cc, hcc, hby⟩ := by_str (deep + 1) (by omega)
  refine ⟨_, rfl, pa, rfl, ⟨_, sqT_frz (s1 _ _ ep)⟩, for_tup (xs := pxs) (fun j σ H' => Bt (fun a => a = fp ∨ a = al) H H' ∧ Feed H' fp ∧ (∃ (arms : List Da) (acc : List V), H' al = some (.lst acc) ∧ ImL H' acc arms ∧ arms.length = j ∧ (∀ m ∈ arms, ∃ t y e p, m = Da.tup [.str t, .str y, e] ∧ (t, p) ∈ kd.parts ∧ ¬ y ∈ Γ.map (·.1) ∧ Tm ks (deep + n + 2) (Γ ++ [(y, p)]) k e) ∧ (∀ t p, (t, p) ∈ kd.parts.take j → ∃ y e, Da.tup [.str t, .str y, e] ∈ arms)) ∧
      ∃ o9 o10 o11, σ = [some (.ref fp), some b, some (.ref bp), some (.ref pa), some (.str k), some (.int room), some (.int ((deep + 1 : Nat) : Int)), some (.ref al), some (.int (room / (kd.parts.length : Int))), o9, o10, o11])
    ⟨Bt.of s1, hf.same s1, ⟨[], [], eal, .nil, rfl, (fun m hm => by cases hm), (fun t p hp => by cases hp)⟩, _, _, _, rfl⟩ (fun j σ H' _ z => sqT_frz (o := po) (ntk z.1 _ _ ep trivial)) ?_ ?_⟩
  · rintro j x σ H' hx ⟨bt, hfd, ⟨arms, acc, hacc, iacc, harl, hform, hall⟩, o9, o10, o11, rfl⟩
    have tk := ntk bt
    obtain ⟨pp, hp, ix⟩ := iml_map ip hx
    have hpm := List.mem_of_getElem? hp
    have hj : j < kd.parts.length := (List.getElem?_eq_some_iff.mp hp).1
    have hacl : acc.length = j := by rw [iacc.length, harl]
    obtain ⟨xa, x1, x2, rfl, ex, j1, j2⟩ := im2 (ix.mono tk)
    cases im_str j1
    cases im_str j2
    have eg' : H' bp = some (.lst gxs) := bt _ _ eg (by rintro (q | q); exact ngf q; exact nga q)
    have hfresh := hga.fresh (deep + 1) (Nat.le_refl _)
    refine ⟨xa, _, rfl, SqT.of ex, rfl, _, _, rfl, _, _, rfl, rfl, ?_⟩
    refine ⟨_, rfl, _, _, cc, rfl, rfl, (by decide +kernel), hcc, _, _, rfl, rfl, (by show 2 + 1 ≤ _; decide), ?_⟩
    rw [hby]
    refine ⟨_, rfl, .inl ⟨rfl, _, SqL.of hacc⟩, _, rfl, _, rfl, _, rfl, _, rfl, _, rfl, _, rfl, _, rfl, le_size (by show 2 ≤ 100000; decide), fun tq htq => ⟨le_size (by show 1 ≤ 100000; decide), fun lq hlq => ?_⟩⟩
    have v1 : Same H' (upd H' tq (.tup [.str (byN (deep + 1)), .str pp.2])) := same_new htq
    have itq : Im (upd H' tq (.tup [.str (byN (deep + 1)), .str pp.2])) (.ref tq) (pairD (byN (deep + 1), pp.2)) := im_new htq (.cons (.str _) (.cons (.str _) .nil))
    generalize upd H' tq (.tup [.str (byN (deep + 1)), .str pp.2]) = Ht at v1 itq hlq ⊢
    have v2 : Same Ht (upd Ht lq (.lst [.ref tq])) := same_new hlq
    have elq : upd Ht lq (.lst [.ref tq]) lq = some (.lst [.ref tq]) := upd_same
    generalize upd Ht lq (.lst [.ref tq]) = Hl at v2 elq ⊢
    have v12 := v1.trans v2
    have hgl : gxs.length ≤ 20 := by rw [ig.length, List.length_map]; have := hga.few; omega
    refine ⟨bp, lq, _, _, rfl, rfl, v12 _ _ eg', elq, le_size (by show gxs.length + 1 ≤ 100000; omega), fun cp hcp => ?_⟩
    have v3 : Same Hl (upd Hl cp (.lst (gxs ++ [.ref tq]))) := same_new hcp
    have v13 := v12.trans v3
    refine ⟨_, rfl, _, rfl, _, rfl, _, _, rfl, rfl, fp, ks, cp, Γ ++ [(byN (deep + 1), pp.2)], k, room / (kd.parts.length : Int), deep, n, rfl, hfd.same v13, hks.mono (tk.trans (Tk.of v13)), ok, rfl, ⟨_, upd_same, ?_⟩, ⟨?_, ?_, ?_, ?_⟩, rfl, hl, hn4, rfl, heach, congrArg V.int (by omega), by omega, hM, fun H5 r t b5 ir tm => ?_⟩
    · rw [List.map_append]
      exact (ig.mono (tk.trans (Tk.of v13))).append (ImL.one (itq.mono (Tk.of (v2.trans v3))))
    · rw [List.map_append]
      exact nd_snoc hga.nd hfresh
    · intro p hp'
      rcases List.mem_append.mp hp' with q | q
      · exact hga.lev p q
      · have := List.mem_singleton.mp q
        subst this
        exact hplv pp hpm
    · rw [List.length_append]
      have := hga.few
      show Γ.length + 1 + deep ≤ 20
      omega
    · intro i hi hmem
      rw [List.map_append] at hmem
      rcases List.mem_append.mp hmem with q | q
      · exact hga.fresh i (by omega) q
      · have := byN_inj (List.mem_singleton.mp q)
        omega
    · have b15 := (FB.same hfd v13).trans b5
      refine ⟨le_size (by show 3 ≤ 100000; decide), fun aq haq => ?_⟩
      have v6 : Same H5 (upd H5 aq (.tup [.str pp.1, .str (byN (deep + 1)), .ref r])) := same_new haq
      have iaq : Im (upd H5 aq (.tup [.str pp.1, .str (byN (deep + 1)), .ref r])) (.ref aq) (.tup [.str pp.1, .str (byN (deep + 1)), t]) := im_new haq (.cons (.str _) (.cons (.str _) (.cons ir .nil)))
      generalize upd H5 aq (.tup [.str pp.1, .str (byN (deep + 1)), .ref r]) = H6 at v6 iaq ⊢
      have b16 := b15.andS v6
      have ha6 : H6 al = some (.lst acc) := b16.ne hacc (Ne.symm fal)
      have tkp := tk_put (o := .lst (acc ++ [.ref aq])) ha6 ntL
      refine ⟨al, _, _, rfl, rfl, ha6, lt_size (by omega), (bt.trans fun a o e na => b16.bt _ _ e fun q => na (.inl q)).trans (Bt.put (.inr rfl)), ?_, ⟨arms ++ [.tup [.str pp.1, .str (byN (deep + 1)), t]], _, upd_same, ((iacc.mono (b16.tk hfd)).append (ImL.one iaq)).mono tkp, by rw [List.length_append, harl]; rfl, fun m hm => ?_, fun t' p' hp' => ?_⟩, _, _, _, rfl⟩
      · obtain ⟨x, y, e, q1, q2⟩ := b16.fd
        exact ⟨x, y, (upd_ne fal).trans e, q1, q2⟩
      · rcases List.mem_append.mp hm with q | q
        · exact hform m q
        · have := List.mem_singleton.mp q
          subst this
          exact ⟨pp.1, _, t, pp.2, rfl, hpm, hfresh, tm⟩
      · rw [take_snoc hp] at hp'
        rcases List.mem_append.mp hp' with q | q
        · obtain ⟨y, e, h'⟩ := hall t' p' q
          exact ⟨y, e, List.mem_append_left _ h'⟩
        · have := List.mem_singleton.mp q
          have e1 : t' = pp.1 := congrArg Prod.fst this
          subst e1
          exact ⟨_, t, List.mem_append_right _ List.mem_cons_self⟩
  · rintro σ H' ⟨bt, hfd, ⟨arms, acc, hacc, iacc, harl, hform, hall⟩, o9, o10, o11, rfl⟩
    rw [hpxl] at harl
    rw [hpxl, List.take_length] at hall
    have tk := ntk bt
    refine ⟨_, rfl, fp, 2, rfl, hfd, rfl, by decide, by decide, fun H2 d g1 g2 b2 => ?_⟩
    have ha2 : H2 al = some (.lst acc) := b2.ne hacc (Ne.symm fal)
    have iacc2 := iacc.mono (b2.tk hfd)
    have bt2 : Bt (fun a => a = fp ∨ a = al) H H2 := bt.trans fun a o e na => b2.bt _ _ e fun q => na (.inl q)
    have fin : ∀ (H3 : Hp) (acc3 : List V) (arms3 : List Da), Bt (fun a => a = fp ∨ a = al) H H3 → Feed H3 fp → ImL H3 acc3 arms3 → (∀ m, m ∈ arms3 ↔ m ∈ arms) → ∀ r, H3 r = none → Q (.ref r) (upd H3 r (.tup acc3)) := by
      intro H3 acc3 arms3 bt3 hf3 i3 hiff r hr
      have sr : Same H3 (upd H3 r (.tup acc3)) := same_new hr
      refine k1 _ r arms3 ⟨fun a o e na => ?_, hf3.same sr⟩ (im_new hr i3) (fun m hm => hform m ((hiff m).mp hm)) (fun t p hp => ?_)
      · have na : a ≠ fp := na
        exact sr _ _ (bt3 _ _ e (by rintro (q | q); exact na q; exact nal e q))
      · obtain ⟨y, e, h'⟩ := hall t p hp
        exact ⟨y, e, (hiff _).mpr h'⟩
    refine ⟨rfl, _, rfl, ?_⟩
    by_cases hd1 : d = 1
    · rw [decide_eq_true (congrArg V.int hd1)]
      refine iteT ⟨_, rfl, .inl ⟨rfl, _, SqL.of ha2⟩, al, _, rfl, rfl, ha2, ?_⟩
      have tkp := tk_put (o := .lst acc.reverse) ha2 ntL
      have irev : ∀ {H' : Hp} {xs : List V} {ds : List Da}, ImL H' xs ds → ImL H' xs.reverse ds.reverse := by
        intro H' xs ds
        induction ds generalizing xs with
        | nil =>
          intro i
          cases iml_nil i
          exact .nil
        | cons d ds ih =>
          intro i
          obtain ⟨x, r, rfl, a, b⟩ := iml_cons i
          rw [List.reverse_cons, List.reverse_cons]
          exact (ih b).append (ImL.one a)
      refine ⟨_, rfl, al, _, rfl, .inl ⟨SqL.of upd_same, fun r hr => ?_⟩⟩
      refine fin _ acc.reverse arms.reverse (bt2.trans (Bt.put (.inr rfl))) ?_ ((irev iacc2).mono tkp) (fun m => List.mem_reverse) r hr
      obtain ⟨x, y, e, q1, q2⟩ := b2.fd
      exact ⟨x, y, (upd_ne fal).trans e, q1, q2⟩
    · rw [decide_eq_false (fun e => hd1 (V.int.inj e))]
      refine iteF ⟨_, rfl, al, acc, rfl, .inl ⟨SqL.of ha2, fun r hr => ?_⟩⟩
      exact fin _ acc arms bt2 b2.fd iacc2 (fun m => Iff.rfl) r hr
end
end SwK
set_option maxHeartbeats 8000000
/-! the builder: terms -/
namespace SwK
open PySem PySem.Spec PyProof.Rows L2
theorem op_sign : ∀ {d : Int}, 0 ≤ d → d < 5 → ∃ c, atI ("+-*<=" : Str).cps.toList d = some c := fun {d} h1 h2 => by
  have : d = 0 ∨ d = 1 ∨ d = 2 ∨ d = 3 ∨ d = 4 := by omega
  rcases this with rfl | rfl | rfl | rfl | rfl
  · exact ⟨_, at0⟩
  · exact ⟨_, at1⟩
  · exact ⟨_, at2⟩
  · exact ⟨_, at3⟩
  · exact ⟨_, atI_nat (j := 4) rfl⟩
theorem iml_at {H : Hp} {xs : List V} {l : List (Str × Str)} (h : ImL H xs (l.map pairD)) {d : Int} (h0 : 0 ≤ d) (h1 : d < (l.length : Int)) : ∃ p v, p ∈ l ∧ atI xs d = some v ∧ Im H v (pairD p) := by
  have hd : d = ((d.toNat : Nat) : Int) := by omega
  have hi : d.toNat < l.length := by omega
  obtain ⟨v, e1, e2⟩ := h.get (j := d.toNat) (d := pairD l[d.toNat]) (by rw [List.getElem?_map, List.getElem?_eq_getElem hi]; rfl)
  refine ⟨l[d.toNat], v, List.getElem_mem hi, ?_, e2⟩
  rw [hd]
  exact atI_nat e1
section
variable {P : Program} {w : World} {K : PySem.W.Frag} {mg : Str → Option Value} {base : Heap}
/- _law_whole_term: slots 0 _law_feed_here 1 _law_kinds_here 2 _law_boxes_here 3 _law_kind 4 _law_room 5 _law_deep 6 _law_sort 7 _law_parts_here 8 _law_one 9 _law_other 10 _law_some 11 _law_t 12 _law_part 13 _law_more 14 _law_terms 15 _law_f -/
theorem sc_law_whole_term : FnScope ["_law_feed_here", "_law_kinds_here", "_law_boxes_here", "_law_kind", "_law_room", "_law_deep", "_law_sort", "_law_parts_here", "_law_one", "_law_other", "_law_some", "_law_t", "_law_part", "_law_more", "_law_terms", "_law_f"] ["_law_feed_here", "_law_kinds_here", "_law_boxes_here", "_law_kind", "_law_room", "_law_deep"] (defScope s_law_whole_term) := ⟨rfl, rfl, rfl, by decide +kernel, rfl, by decide +kernel, by decide +kernel⟩
theorem ok_law_whole (T : Txt K mg) {M L : Nat} (hL : 10 ≤ L) (c_law_take : C8.Cal P w K mg base 1 "_law_take" spTake []) (c_law_number : C8.Cal P w K mg base 2 "_law_number" spNumber []) (c_law_sort_of : C8.Cal P w K mg base 1 "_law_sort_of" spSortB []) (c_law_small : C8.Cal P w K mg base 7 "_law_small" (spSmall 5) [])
    (c_law_term : C8.Cal P w K mg base L "_law_term" (spTerm M) []) : C8.Cal P w K mg base (L + 1) "_law_whole_term" (spTerm (M + 1)) [] := by
  refine mkCal (f_law_whole_term T) (g_law_whole_term T) sc_law_whole_term (fun _ _ _ _ _ _ us hl => match us, hl with | [_, _, _, _, _, _], _ => rfl) (fun vs H Q E h => ?_) (fun vs H Q E h => ?_)
  · obtain ⟨a, b, c, d, e, g, rfl, _⟩ := sp6_len h
    rfl
  obtain ⟨a, b, c, d, e, g, rfl, h⟩ := sp6_len h
  intro cdv A outer s E hr
  have hu := hu_of hr
  obtain ⟨fp, ks, bp, Γ, k, room, deep, n, rfl, hf, hks, ok, rfl, hg, hga, rfl, hl, hn4, rfl, hroom, rfl, hd2, hM, k1⟩ := h
  refine ⟨_, (pss_cons (ps_asg (C8.pe_c c_law_sort_of hr (by omega) rfl (pa_cons (pv 1) (pa_cons (pv 3) pa_nil))) (pg_tup rfl (pgs_cons (pg_name (i := 6) sc_law_whole_term.nd rfl (by first | exact .inl rfl | exact .inr rfl)) (pgs_cons (pg_name (i := 7) sc_law_whole_term.nd rfl (by first | exact .inl rfl | exact .inr rfl)) pgs_nil))))
        (pss_cons (ps_if (pt_cmpR op_eq (pv 6) pe_str (nomark _)) (pss_cons (ps_if (PW.pt (pw_or (pt_cmpR op_lt (pv 4) pe_int (nomark _)) (pw_or (pt_cmpR op_eq (pv 5) pe_int (nomark _)) (pw_or1 (pt_cmpR op_eq (C8.pe_c c_law_take hr (by omega) rfl (pa_cons (pv 0) (pa_cons pe_int pa_nil))) pe_int (nomark _)))))) (pss_one (ps_ret (pe_tup (pa_cons pe_str (pa_cons (C8.pe_c c_law_number hr (by omega) rfl (pa_cons (pv 0) pa_nil)) pa_nil))))) pss_nil)
        (pss_cons (ps_set (i := 8) sc_law_whole_term.nd rfl (by first | exact .inl rfl | exact .inr rfl) (C8.pe_c c_law_term hr (by omega) rfl (pa_cons (pv 0) (pa_cons (pv 1) (pa_cons (pv 2) (pa_cons pe_str (pa_cons (pe_op op_fdiv (pe_op op_sub (pv 4) pe_int) pe_int) (pa_cons (pe_op op_sub (pv 5) pe_int) pa_nil))))))))
        (pss_cons (ps_set (i := 9) sc_law_whole_term.nd rfl (by first | exact .inl rfl | exact .inr rfl) (C8.pe_c c_law_term hr (by omega) rfl (pa_cons (pv 0) (pa_cons (pv 1) (pa_cons (pv 2) (pa_cons pe_str (pa_cons (pe_op op_fdiv (pe_op op_sub (pv 4) pe_int) pe_int) (pa_cons (pe_op op_sub (pv 5) pe_int) pa_nil))))))))
        (pss_one (ps_ret (pe_tup (pa_cons pe_str (pa_cons (pe_ix ix_str pe_str (C8.pe_c c_law_take hr (by omega) rfl (pa_cons (pv 0) (pa_cons pe_int pa_nil))) (fun _ _ => rfl)) (pa_cons (pv 8) (pa_cons (pv 9) pa_nil)))))))))) pss_nil)
        (pss_cons (ps_if (pt_cmpR op_eq (pv 6) pe_str (nomark _)) (pss_cons (ps_setLc (i := 10) (own := [("_law_part", 12)]) rfl sc_law_whole_term.nd rfl rfl (sw_true rfl rfl rfl (by decide +kernel)) (pi_tup (pv 7)) (blkOk_by (N := ["_law_feed_here", "_law_kinds_here", "_law_boxes_here", "_law_kind", "_law_room", "_law_deep", "_law_sort", "_law_parts_here", "_law_one", "_law_other", "_law_some", "_law_t", "_law_part", "_law_more", "_law_terms", "_law_f"]) (sc := defScope s_law_whole_term) (by decide +kernel)) (fun _ _ _ _ _ => (pg_name (i := 12) sc_law_whole_term.nd rfl (by first | exact .inl rfl | exact .inr rfl))) (fun _ _ _ _ _ => (pts_one (pt_cmpR op_lt (C8.pe_c c_law_small hr (by omega) rfl (pa_cons (pv 1) (pa_cons (pe_ix (ixT (K := K) rfl) (pv 12) pe_int (fun _ _ => rfl)) pa_nil))) (pv 4) (nomark _)))) (fun _ _ _ _ _ => (pv 12)))
        (pss_cons (ps_asg (pe_ix ix_list (pv 10) (C8.pe_c c_law_take hr (by omega) rfl (pa_cons (pv 0) (pa_cons (pe_callB call_len rfl (z_len T) PySem.boot_len (pa_cons (pv 10) pa_nil)) pa_nil))) (fun _ _ => rfl)) (pg_tup rfl (pgs_cons (pg_name (i := 11) sc_law_whole_term.nd rfl (by first | exact .inl rfl | exact .inr rfl)) (pgs_cons (pg_name (i := 12) sc_law_whole_term.nd rfl (by first | exact .inl rfl | exact .inr rfl)) pgs_nil))))
        (pss_one (ps_ret (pe_tup (pa_cons pe_str (pa_cons (pv 3) (pa_cons (pv 11) (pa_cons (C8.pe_c c_law_term hr (by omega) rfl (pa_cons (pv 0) (pa_cons (pv 1) (pa_cons (pv 2) (pa_cons (pv 12) (pa_cons (pe_op op_sub (pv 4) pe_int) (pa_cons (pv 5) pa_nil))))))) pa_nil))))))))) pss_nil)
        (pss_cons (ps_set (i := 13) sc_law_whole_term.nd rfl (by first | exact .inl rfl | exact .inr rfl) (pe_op op_sub (pv 4) (C8.pe_c c_law_small hr (by omega) rfl (pa_cons (pv 1) (pa_cons (pv 3) pa_nil)))))
        (pss_cons (ps_set (i := 14) sc_law_whole_term.nd rfl (by first | exact .inl rfl | exact .inr rfl) (pe_lst pa_nil))
        (pss_cons (ps_for PassesOwn.never rfl (pi_tup (pv 7)) (pg_tup rfl (pgs_cons (pg_name (i := 15) sc_law_whole_term.nd rfl (by first | exact .inl rfl | exact .inr rfl)) (pgs_cons (pg_name (i := 12) sc_law_whole_term.nd rfl (by first | exact .inl rfl | exact .inr rfl)) pgs_nil))) (pss_one (ps_expr (pe_bm PySem.F.plainAttrs_list PySem.F.slot_list_append PySem.F.type_list_append mt_append (pv 14) (pa_cons (C8.pe_c c_law_term hr (by omega) rfl (pa_cons (pv 0) (pa_cons (pv 1) (pa_cons (pv 2) (pa_cons (pv 12) (pa_cons (pe_op op_add (C8.pe_c c_law_small hr (by omega) rfl (pa_cons (pv 1) (pa_cons (pv 12) pa_nil))) (pe_op op_fdiv (pv 13) (pe_callB call_len rfl (z_len T) PySem.boot_len (pa_cons (pv 7) pa_nil)))) (pa_cons (pv 5) pa_nil))))))) pa_nil)))))
        (pss_one (ps_ret (pe_tup (pa_cons pe_str (pa_cons (pv 3) (pa_cons (pe_callTy call_tuple_of rfl (z_tuple T) (by decide +kernel) (pa_cons (pv 14) pa_nil)) pa_nil)))))))))))), ?_⟩
  refine ⟨_, rfl, _, rfl, ks, k, hks, rfl, fun H1 r s1 ir => ?_⟩
  unfold sortB at ir
  have hks1 := hks.mono (Tk.of s1)
  have hf1 := hf.same s1
  have hg1 := hg.same s1
  have few5 : ∀ kd ∈ ks, kd.parts.length ≤ 5 := ok.few
  cases e : lookK ks k with
  | none =>
    rw [e] at ir
    obtain ⟨q, x1, x2, z, eq, j1, j2⟩ := im2 ir
    cases z
    cases im_str j1
    have hknum : k = "num" := by
      cases n with
      | zero => exact hl
      | succ n =>
        rcases hl with z | ⟨kd, z, _⟩
        · exact z
        · rw [e] at z
          cases z
    subst hknum
    have retNum : ∀ H2, FB fp H H2 → ∀ (d : Int), 0 ≤ d → d < 4294967296 → ∀ r, H2 r = none → Q (.ref r) (upd H2 r (.tup [.str "num", .int d])) := fun H2 b2 d h0 h1 r hr =>
      k1 _ r (.tup [.str "num", .int d]) (b2.andS (same_new hr)) (im_new hr (.cons (.str _) (.cons (.int _) .nil))) (.inl ⟨d, rfl, rfl, h0, h1⟩)
    refine ⟨r, _, rfl, SqT.of eq, rfl, _, _, rfl, _, _, rfl, rfl, ?_⟩
    refine ⟨_, rfl, rfl, _, rfl, ifTD ?_⟩
    refine ⟨_, rfl, _, _, rfl, rfl, _, rfl, ?_⟩
    by_cases hr3 : room < 3
    · rw [decide_eq_true hr3]
      exact iteT (iteT ⟨_, rfl, fp, rfl, hf1, fun H2 d h0 h1 b2 => ⟨le_size (by show 2 ≤ 100000; decide), fun rr hrr => retNum _ ((FB.same hf s1).trans b2) d h0 h1 rr hrr⟩⟩)
    rw [decide_eq_false hr3]
    refine iteF ⟨_, rfl, rfl, _, rfl, ?_⟩
    by_cases hd0 : deep = 0
    · subst hd0
      rw [show decide (V.int ((0 : Nat) : Int) = V.int 0) = true from decide_eq_true rfl]
      exact iteT (iteT ⟨_, rfl, fp, rfl, hf1, fun H2 d h0 h1 b2 => ⟨le_size (by show 2 ≤ 100000; decide), fun rr hrr => retNum _ ((FB.same hf s1).trans b2) d h0 h1 rr hrr⟩⟩)
    rw [decide_eq_false (fun z => hd0 (by have := V.int.inj z; omega))]
    refine iteF ⟨_, rfl, fp, 2, rfl, hf1, rfl, by decide, by decide, fun H2 d h0 h1 b2 => ⟨rfl, _, rfl, ?_⟩⟩
    have b12 := (FB.same hf s1).trans b2
    by_cases hz : d = 0
    · subst hz
      rw [show decide (V.int 0 = V.int 0) = true from decide_eq_true rfl]
      exact iteT ⟨_, rfl, fp, rfl, b2.fd, fun H3 d h0 h1 b3 => ⟨le_size (by show 2 ≤ 100000; decide), fun rr hrr => retNum _ (b12.trans b3) d h0 h1 rr hrr⟩⟩
    rw [decide_eq_false (fun z => hz (V.int.inj z))]
    refine iteF ?_
    have hsm : smallN ks 4 "num" = 1 := smallN_num ok.num 4
    have gam : GamOk ks Γ (deep - 1) := ⟨hga.nd, hga.lev, by have := hga.few; omega, fun j hj => hga.fresh j (by omega)⟩
    refine ⟨_, rfl, _, rfl, _, rfl, _, rfl, _, _, rfl, rfl, _, _, rfl, rfl, ⟨by decide, by decide⟩, _, rfl, _, _, rfl, rfl, fp, ks, bp, Γ, "num", _, deep - 1, 0, rfl, b12.fd, hks.mono (b12.tk hf), ok, rfl, hg.fb hf b12, gam, rfl, rfl, by omega, rfl, (by rw [hsm]; omega), congrArg V.int (by omega), by omega, by omega, fun H3 r1 t1 b3 ir1 tm1 => ?_⟩
    have b13 := b12.trans b3
    refine ⟨_, rfl, _, rfl, _, rfl, _, rfl, _, _, rfl, rfl, _, _, rfl, rfl, ⟨by decide, by decide⟩, _, rfl, _, _, rfl, rfl, fp, ks, bp, Γ, "num", _, deep - 1, 0, rfl, b13.fd, hks.mono (b13.tk hf), ok, rfl, hg.fb hf b13, gam, rfl, rfl, by omega, rfl, (by rw [hsm]; omega), congrArg V.int (by omega), by omega, by omega, fun H4 r2 t2 b4 ir2 tm2 => ?_⟩
    have b14 := b13.trans b4
    refine ⟨_, rfl, fp, 5, rfl, b14.fd, rfl, by decide, by decide, fun H5 d5 g0 g1 b5 => ?_⟩
    obtain ⟨c, hc⟩ := op_sign g0 g1
    refine ⟨_, _, c, rfl, rfl, (by decide +kernel), hc, _, rfl, _, rfl, le_size (by show 4 ≤ 100000; decide), fun rr hrr => ?_⟩
    refine k1 _ rr (.tup [.str "op", .str ⟨#[c]⟩, t1, t2]) ((b14.trans b5).andS (same_new hrr)) (im_new hrr (.cons (.str _) (.cons (.str _) (.cons ((ir1.mono (b4.tk b3.fd)).mono (b5.tk b4.fd)) (.cons (ir2.mono (b5.tk b4.fd)) .nil))))) ?_
    exact .inr (.inr (.inl ⟨_, t1, t2, rfl, rfl, tm1.mono (by omega), tm2.mono (by omega)⟩))
  | some kd =>
    rw [e] at ir
    obtain ⟨q, x1, x2, z, eq, j1, j2⟩ := im2 ir
    cases z
    cases im_str j1
    obtain ⟨pa, po, pxs, rfl, ep, _, ip⟩ := im_pt j2
    have hpxl : pxs.length = kd.parts.length := by rw [ip.length, List.length_map]
    cases n with
    | zero =>
      have : k = "num" := hl
      rw [this, ok.num] at e
      cases e
    | succ n =>
      rcases hl with z' | ⟨kd', e', l2, l3⟩
      · rw [z', ok.num] at e
        cases e
      rw [e] at e'
      cases e'
      have hkf := ok.few kd (lookK_mem e).1
      refine ⟨r, _, rfl, SqT.of eq, rfl, _, _, rfl, _, _, rfl, rfl, ?_⟩
      have nnum : ¬ sortS kd.alt = "num" := by
        cases kd.alt with
        | true => exact show ¬ ("alt" : Str) = "num" by decide +kernel
        | false => exact show ¬ ("rec" : Str) = "num" by decide +kernel
      refine ⟨_, rfl, rfl, _, rfl, ifFD nnum ?_⟩
      refine ⟨_, rfl, rfl, _, rfl, ?_⟩
      cases ha : kd.alt with
      | true =>
        refine ifTD ?_
        refine ⟨_, rfl, pa, rfl, ⟨_, sqT_frz ep⟩, fun D hD => lc_tup (K := K) (a := pa) (xs := pxs) (fun i H' => Same H1 H' ∧ ∃ (fl : List (Str × Str)) (acc : List V), H' D = some (.lst acc) ∧ ImL H' acc (fl.map pairD) ∧ fl.length ≤ i ∧ (0 < i → fl ≠ []) ∧ ∀ p ∈ fl, p ∈ kd.parts ∧ (smallN ks 4 p.2 : Int) < room) ⟨same_new hD, [], [], upd_same, .nil, Nat.le_refl _, (fun h => absurd h (Nat.lt_irrefl 0)), (fun p hp => by cases hp)⟩ (fun i H' _ q => sqT_frz (q.1 _ _ ep)) (fun i x H' hx q => ?_) (fun H' q => ?_)⟩
        · obtain ⟨t1, fl, acc, hacc, iacc, hfl, hne, hall⟩ := q
          obtain ⟨pp, hp, ix⟩ := iml_map ip hx
          have ix' := ix.mono (Tk.of t1)
          obtain ⟨qa, y1, y2, rfl, eqa, i1, i2⟩ := im2 ix'
          cases im_str i2
          have hpm := List.mem_of_getElem? hp
          have hi : i < kd.parts.length := (List.getElem?_eq_some_iff.mp hp).1
          refine ⟨rfl, ?_⟩
          refine ⟨_, rfl, _, rfl, qa, _, _, _, rfl, rfl, SqT.of eqa, at1, ks, pp.2, n, hks1.mono (Tk.of t1), rfl, by omega, by omega, l3 pp hpm, ok.num, few5, fun H2 t2 => ?_⟩
          refine ⟨_, rfl, _, _, rfl, rfl, _, rfl, ?_⟩
          by_cases hlt : (smallN ks 4 pp.2 : Int) < room
          · rw [decide_eq_true hlt]
            refine iteT ⟨_, rfl, acc, t2 _ _ hacc, ?_, same_put (t1.trans t2) hD, fl ++ [pp], _, upd_same, ?_, ?_, ?_, ?_⟩
            · rw [iacc.length, List.length_map]
              exact lt_size (by omega)
            · rw [List.map_append]
              exact ((iacc.mono (Tk.of t2)).append (ImL.one (ix'.mono (Tk.of t2)))).mono (tk_put (t2 _ _ hacc) ntL)
            · rw [List.length_append]
              exact Nat.succ_le_succ hfl
            · intro _ z
              exact absurd (congrArg List.length z) (by rw [List.length_append]; show fl.length + 1 ≠ 0; omega)
            · intro p hp'
              rcases List.mem_append.mp hp' with h | h
              · exact hall p h
              · have := List.mem_singleton.mp h
                subst this
                exact ⟨hpm, hlt⟩
          · rw [decide_eq_false hlt]
            refine iteF ⟨t1.trans t2, fl, acc, t2 _ _ hacc, iacc.mono (Tk.of t2), by omega, fun _ => ?_, hall⟩
            cases i with
            | succ i => exact hne (Nat.succ_pos i)
            | zero =>
              exfalso
              cases hpp : kd.parts with
              | nil => rw [hpp] at hi; exact absurd hi (Nat.lt_irrefl 0)
              | cons p0 rr =>
                rw [hpp] at hp
                have h0 := Option.some.inj (show some p0 = some pp from hp)
                subst h0
                have hsa := small_alt ok.num (m := n) (by omega) e ha hpp (l3 p0 (by rw [hpp]; exact List.mem_cons_self))
                rw [hsa] at hroom
                omega
        · obtain ⟨t1, fl, acc, hacc, iacc, hfl, hne, hall⟩ := q
          have hflne := hne (by rw [hpxl]; exact List.length_pos_iff.mpr (l2 ha))
          have hfpos := List.length_pos_iff.mpr hflne
          have hal : acc.length = fl.length := by rw [iacc.length, List.length_map]
          have s12 := s1.trans t1
          have hfd := hf.same s12
          refine ⟨_, rfl, _, rfl, _, rfl, _, _, rfl, .inl ⟨_, SqL.of hacc, rfl⟩, fp, _, rfl, hfd, rfl, (by omega), (by omega), fun H2 d h0 h1 b2 => ?_⟩
          rw [hal] at h1
          obtain ⟨pp, v, hpm, hv, iv⟩ := iml_at iacc h0 h1
          obtain ⟨hpm, hlt⟩ := hall pp hpm
          have ha2 : H2 D = some (.lst acc) := b2.ne hacc (feed_ne hfd hacc (iml_noint iacc pairs_noint))
          obtain ⟨va, z1, z2, rfl, ev, i1, i2⟩ := im2 (iv.mono (b2.tk hfd))
          cases im_str i1
          cases im_str i2
          have b12 := (FB.same hf s12).trans b2
          refine ⟨D, _, _, _, rfl, rfl, SqL.of ha2, hv, va, _, rfl, SqT.of ev, rfl, _, _, rfl, _, _, rfl, rfl, ?_⟩
          refine ⟨_, rfl, _, rfl, _, rfl, _, rfl, _, rfl, _, rfl, _, rfl, _, _, rfl, rfl, _, rfl, fp, ks, bp, Γ, pp.2, _, deep, n, rfl, b12.fd, hks.mono (b12.tk hf), ok, rfl, hg.fb hf b12, hga, rfl, l3 pp hpm, by omega, rfl, (by omega), rfl, hd2, by omega, fun H3 r3 t3 b3 ir3 tm3 => ?_⟩
          refine ⟨le_size (by show 4 ≤ 100000; decide), fun rr hrr => ?_⟩
          refine k1 _ rr (.tup [.str "tag", .str k, .str pp.1, t3]) ((b12.trans b3).andS (same_new hrr)) (im_new hrr (.cons (.str _) (.cons (.str _) (.cons (.str _) (.cons ir3 .nil))))) ?_
          exact .inr (.inr (.inr (.inr (.inr (.inl ⟨pp.1, pp.2, t3, kd, rfl, e, ha, hpm, tm3⟩)))))
      | false =>
        refine ifFD (show ¬ ("rec" : Str) = "alt" by decide +kernel) ?_
        have hsr := small_rec ok.num (m := n) (by omega) e ha l3
        refine ⟨_, rfl, _, rfl, _, rfl, ks, k, n + 1, hks1, rfl, by omega, hn4, .inr ⟨kd, e, l2, l3⟩, ok.num, few5, fun H2 s2 => ⟨_, _, rfl, rfl, ?_⟩⟩
        refine ⟨le_size (by show 0 ≤ 100000; decide), fun tl htl => ?_⟩
        have s3 : Same H2 (upd H2 tl (.lst [])) := same_new htl
        have etl : upd H2 tl (.lst []) tl = some (.lst []) := upd_same
        have s13 := (s1.trans s2).trans s3
        have htn : H tl = none := new_old (s1.trans s2) htl
        generalize upd H2 tl (.lst []) = H3 at s3 etl s13 ⊢
        have ntl : ∀ {z : Addr} {o : HO}, H z = some o → z ≠ tl := fun h e => by rw [e, htn] at h; cases h
        have ftl : fp ≠ tl := by
          obtain ⟨x, y, e, _⟩ := hf
          exact ntl e
        obtain ⟨gxs, eg, ig⟩ := hg
        have ngf : bp ≠ fp := feed_ne hf eg (iml_noint ig pairs_noint)
        have hfd3 := hf.same s13
        have ep3 : H3 pa = some (.frz po (.tup pxs)) := (s2.trans s3) _ _ ep
        have ntk : ∀ {H' : Hp}, Bt (fun a => a = fp ∨ a = tl) H3 H' → Tk H3 H' := fun bt => bt.tk fun a o ea e => by
          rcases ea with q | q
          · obtain ⟨x, y, e', _⟩ := hfd3
            rw [q, e'] at e
            cases e
            exact ntL
          · rw [q, etl] at e
            cases e
            exact ntL
        refine ⟨_, rfl, pa, rfl, ⟨_, sqT_frz ep3⟩, for_tup (xs := pxs) (fun j σ H' => Bt (fun a => a = fp ∨ a = tl) H3 H' ∧ Feed H' fp ∧ (∃ (es : List Da) (acc : List V), H' tl = some (.lst acc) ∧ ImL H' acc es ∧ es.length = j ∧ Paired (fun (p : Str × Str) e => Tm ks (deep + n + 2) Γ p.2 e) (kd.parts.take j) es) ∧
            ∃ o8 o9 o10 o11 o12 o15, σ = [some (.ref fp), some b, some (.ref bp), some (.str k), some (.int room), some (.int (deep : Nat)), some (.str (sortS false)), some (.ref pa), o8, o9, o10, o11, o12, some (.int (room - ((smallN ks 4 k : Nat) : Int))), some (.ref tl), o15])
          ⟨Bt.of (Same.refl _), hfd3, ⟨[], [], etl, .nil, rfl, .nil⟩, _, _, _, _, _, _, rfl⟩ (fun j σ H' _ z => sqT_frz (o := po) (ntk z.1 _ _ ep3 trivial)) ?_ ?_⟩
        · rintro j x σ H' hx ⟨bt, hfd, ⟨es, acc, hacc, iacc, hesl, hpair⟩, o8, o9, o10, o11, o12, o15, rfl⟩
          have tk := ntk bt
          obtain ⟨pp, hp, ix⟩ := iml_map ip hx
          have hpm := List.mem_of_getElem? hp
          have hj : j < kd.parts.length := (List.getElem?_eq_some_iff.mp hp).1
          have hacl : acc.length = j := by rw [iacc.length, hesl]
          obtain ⟨xa, x1, x2, rfl, ex, i1, i2⟩ := im2 ((ix.mono (Tk.of (s2.trans s3))).mono tk)
          cases im_str i1
          cases im_str i2
          have eg' : H' bp = some (.lst gxs) := bt _ _ (s13 _ _ eg) (by rintro (q | q); exact ngf q; exact ntl eg q)
          have tkH : Tk H H' := (Tk.of s13).trans tk
          refine ⟨xa, _, rfl, SqT.of ex, rfl, _, _, rfl, _, _, rfl, rfl, ?_⟩
          refine ⟨_, rfl, .inl ⟨rfl, _, SqL.of hacc⟩, _, rfl, _, rfl, _, rfl, _, rfl, _, rfl, _, rfl, ks, pp.2, n, hks.mono tkH, rfl, by omega, by omega, l3 pp hpm, ok.num, few5, fun H4 s4 => ?_⟩
          have epz := s4 _ _ (tk _ _ ep3 trivial)
          have hdiv : 0 ≤ (room - (smallN ks 4 k : Int)) / (kd.parts.length : Int) := Int.ediv_nonneg (by omega) (by omega)
          refine ⟨_, rfl, _, rfl, _, _, rfl, .inr ⟨_, sqT_frz epz, rfl⟩, _, _, rfl, rfl, ⟨(by rw [hpxl]; omega), (by rw [hpxl]; omega)⟩, _, _, rfl, rfl, _, rfl, fp, ks, bp, Γ, pp.2, _, deep, n, rfl, hfd.same s4, (hks.mono tkH).mono (Tk.of s4), ok, rfl, ⟨gxs, s4 _ _ eg', (ig.mono tkH).mono (Tk.of s4)⟩, hga, rfl, l3 pp hpm, by omega, rfl, (by rw [hpxl]; omega), rfl, hd2, by omega, fun H5 r5 t5 b5 ir5 tm5 => ?_⟩
          have b45 := (FB.same hfd s4).trans b5
          have ha5 : H5 tl = some (.lst acc) := b45.ne hacc (Ne.symm ftl)
          have tkp := tk_put (o := .lst (acc ++ [.ref r5])) ha5 ntL
          refine ⟨tl, _, _, rfl, rfl, ha5, lt_size (by omega), (bt.trans fun a o e na => b45.bt _ _ e fun q => na (.inl q)).trans (Bt.put (.inr rfl)), ?_, ⟨es ++ [t5], _, upd_same, ((iacc.mono (b45.tk hfd)).append (ImL.one ir5)).mono tkp, by rw [List.length_append, hesl]; rfl, ?_⟩, _, _, _, _, _, _, rfl⟩
          · obtain ⟨x, y, e, q1, q2⟩ := b5.fd
            exact ⟨x, y, (upd_ne ftl).trans e, q1, q2⟩
          · rw [take_snoc hp]
            have app : ∀ {l : List (Str × Str)} {es : List Da}, Paired (fun (p : Str × Str) e => Tm ks (deep + n + 2) Γ p.2 e) l es → Paired (fun (p : Str × Str) e => Tm ks (deep + n + 2) Γ p.2 e) (l ++ [pp]) (es ++ [t5]) := by
              intro l es h
              induction h with
              | nil => exact .cons tm5 .nil
              | cons a _ ih => exact .cons a ih
            exact app hpair
        · rintro σ H' ⟨bt, hfd, ⟨es, acc, hacc, iacc, hesl, hpair⟩, o8, o9, o10, o11, o12, o15, rfl⟩
          rw [hpxl, List.take_length] at hpair
          refine ⟨_, rfl, _, rfl, tl, acc, rfl, .inl ⟨SqL.of hacc, fun t ht => ⟨le_size (by show 3 ≤ 100000; decide), fun rr hrr => ?_⟩⟩⟩
          have w1 : Same H' (upd H' t (.tup acc)) := same_new ht
          have w2 : Same (upd H' t (.tup acc)) (upd (upd H' t (.tup acc)) rr (.tup [.str "rec", .str k, .ref t])) := same_new hrr
          refine k1 _ rr (.tup [.str "rec", .str k, .tup es]) ⟨fun a o e na => ?_, hfd.same (w1.trans w2)⟩ (im_new hrr (.cons (.str _) (.cons (.str _) (.cons (im_new ht iacc) .nil)))) ?_
          · have na : a ≠ fp := na
            exact (w1.trans w2) _ _ (bt _ _ (s13 _ _ e) (by rintro (q | q); exact na q; exact ntl e q))
          · exact .inr (.inr (.inr (.inl ⟨es, kd, rfl, e, ha, hpair⟩)))
end
end SwK
set_option maxHeartbeats 16000000
/-! the builder: terms -/
namespace SwK
open PySem PySem.Spec PyProof.Rows L2
/-- a sort and its parts, read -/
theorem sortB_im {K : PySem.W.Frag} {H : Hp} {r : Addr} {ks : List Kd} {k : Str} (h : Im H (.ref r) (sortB ks k)) : ∃ (so : Str) (pa : Addr) (pxs : List V) (ps : List (Str × Str)), H r = some (.tup [.str so, .ref pa]) ∧ SqT K H pa pxs ∧ (∃ l, Im H (.ref pa) (.pt l) ∨ Im H (.ref pa) (.tup l)) ∧ ImL H pxs (ps.map pairD) ∧
    ((so = "num" ∧ ps = [] ∧ lookK ks k = none) ∨ ∃ kd, lookK ks k = some kd ∧ so = sortS kd.alt ∧ ps = kd.parts ∧ Im H (.ref pa) (partsD kd.parts)) := by
  unfold sortB at h
  cases e : lookK ks k with
  | none =>
    rw [e] at h
    obtain ⟨q, x1, x2, z, eq, j1, j2⟩ := im2 h
    cases z
    cases im_str j1
    obtain ⟨pa, pxs, rfl, ep, ip⟩ := im_tup j2
    exact ⟨_, pa, pxs, [], eq, SqT.of ep, ⟨_, .inr j2⟩, ip, .inl ⟨rfl, rfl, rfl⟩⟩
  | some kd =>
    rw [e] at h
    obtain ⟨q, x1, x2, z, eq, j1, j2⟩ := im2 h
    cases z
    cases im_str j1
    have j3 := j2
    obtain ⟨pa, po, pxs, rfl, ep, _, ip⟩ := im_pt j2
    exact ⟨_, pa, pxs, kd.parts, eq, sqT_frz ep, ⟨_, .inl j3⟩, ip, .inr ⟨kd, rfl, rfl, rfl, j3⟩⟩
theorem sqT_same {K : PySem.W.Frag} {H H' : Hp} {p : Addr} {l : List V} (s : Same H H') (h : SqT K H p l) : SqT K H' p l := by
  rcases h with (h | ⟨o, h⟩) | h
  · exact .inl (.inl (s _ _ h))
  · exact .inl (.inr ⟨o, s _ _ h⟩)
  · exact .inr h
theorem pairs_lst {K : PySem.W.Frag} {H : Hp} : ∀ {l : List (Str × Str)} {xs : List V}, ImL H xs (l.map pairD) → ∃ qs kvs, xs = qs.map V.ref ∧ Paired (fun (p : Addr) (kv : Key × V) => SqT K H p [kV kv.1, kv.2]) qs kvs ∧ KvI H kvs (kindsE l)
  | [], xs, i => by
    cases iml_nil i
    exact ⟨[], [], rfl, .nil, .nil⟩
  | p :: l, xs, i => by
    obtain ⟨x, r, rfl, ix, ir⟩ := iml_cons i
    obtain ⟨qa, y1, y2, rfl, eq, i1, i2⟩ := im2 ix
    cases im_str i1
    obtain ⟨qs, kvs, rfl, hp, hk⟩ := pairs_lst ir
    exact ⟨qa :: qs, (Sum.inr p.1, y2) :: kvs, rfl, .cons (SqT.of eq) hp, .cons i2 hk⟩
theorem str_at {l : List Str} {d : Int} (h0 : 0 ≤ d) (h1 : d < (l.length : Int)) : ∃ x ∈ l, atI (l.map V.str) d = some (.str x) := by
  have hd : d = ((d.toNat : Nat) : Int) := by omega
  have hi : d.toNat < l.length := by omega
  have key : atI (l.map V.str) ((d.toNat : Nat) : Int) = some (.str l[d.toNat]) := atI_nat (by rw [List.getElem?_map, List.getElem?_eq_getElem hi]; rfl)
  rw [← hd] at key
  exact ⟨_, List.getElem_mem hi, key⟩
theorem intF {i j : Int} (h : i ≠ j) {A B : Prop} (b : B) : if decide (V.int i = V.int j) = true then A else B := by
  rw [decide_eq_false (fun e => h (V.int.inj e))]
  exact iteF b
theorem intT {i : Int} {A B : Prop} (a : A) : if decide (V.int i = V.int i) = true then A else B := by
  rw [decide_eq_true rfl]
  exact iteT a
theorem propT {p : Prop} [Decidable p] (h : p) {A B : Prop} (a : A) : if decide p = true then A else B := by
  rw [decide_eq_true h]
  exact iteT a
theorem propF {p : Prop} [Decidable p] (h : ¬ p) {A B : Prop} (b : B) : if decide p = true then A else B := by
  rw [decide_eq_false h]
  exact iteF b
theorem viaA {A G : Prop} (a : A) (f : A → G) : G := f a
section
variable {P : Program} {w : World} {K : PySem.W.Frag} {mg : Str → Option Value} {base : Heap}
/- _law_term: slots 0 _law_feed_here 1 _law_kinds_here 2 _law_boxes_here 3 _law_kind 4 _law_room 5 _law_deep 6 _law_some 7 _law_form 8 _law_small_here 9 _law_more 10 _law_one 11 _law_first 12 _law_held 13 _law_x 14 _law_told 15 _law_sort 16 _law_parts_here 17 _law_f 18 _law_tags 19 _law_part -/
theorem sc_law_term : FnScope ["_law_feed_here", "_law_kinds_here", "_law_boxes_here", "_law_kind", "_law_room", "_law_deep", "_law_some", "_law_form", "_law_small_here", "_law_more", "_law_one", "_law_first", "_law_held", "_law_x", "_law_told", "_law_sort", "_law_parts_here", "_law_f", "_law_tags", "_law_part"] ["_law_feed_here", "_law_kinds_here", "_law_boxes_here", "_law_kind", "_law_room", "_law_deep"] (defScope s_law_term) := ⟨rfl, rfl, rfl, by decide +kernel, rfl, by decide +kernel, by decide +kernel⟩
theorem law_term_step (T : Txt K mg) {M L : Nat} (hL : 10 ≤ L) (c_law_take : C8.Cal P w K mg base 1 "_law_take" spTake []) (c_law_boxed : C8.Cal P w K mg base 2 "_law_boxed" spBoxed []) (c_law_sort_of : C8.Cal P w K mg base 1 "_law_sort_of" spSortB []) (c_law_small : C8.Cal P w K mg base 7 "_law_small" (spSmall 5) [])
    (c_law_term : C8.Cal P w K mg base L "_law_term" (spTerm M) []) (c_law_arms : C8.Cal P w K mg base (L + 1) "_law_arms" (spArms M) []) (c_law_whole_term : C8.Cal P w K mg base (L + 1) "_law_whole_term" (spTerm (M + 1)) []) : C8.Cal P w K mg base (L + 2) "_law_term" (spTerm (M + 1)) [] := by
  show C8.Cal P w K mg base ((L + 1) + 1) "_law_term" (spTerm (M + 1)) []
  refine mkCal (f_law_term T) (g_law_term T) sc_law_term (fun _ _ _ _ _ _ us hl => match us, hl with | [_, _, _, _, _, _], _ => rfl) (fun vs H Q E h => ?_) (fun vs H Q E h => ?_)
  · obtain ⟨a, b, c, d, e, g, rfl, _⟩ := sp6_len h
    rfl
  obtain ⟨a, b, c, d, e, g, rfl, h⟩ := sp6_len h
  intro cdv A outer s E hr
  have hu := hu_of hr
  obtain ⟨fp, ks, bp, Γ, k, room, deep, n, rfl, hf, hks, ok, rfl, hg, hga, rfl, hl, hn4, rfl, hroom, rfl, hd2, hM, k1⟩ := h
  have few5 : ∀ kd ∈ ks, kd.parts.length ≤ 5 := ok.few
  have gfew := hga.few
  have whole : ∀ (H' : Hp) (E' : XK), FB fp H H' → spTerm (M + 1) [.ref fp, b, .ref bp, .str k, .int room, .int (deep : Nat)] H' Q E' := fun H' E' b1 =>
    ⟨fp, ks, bp, Γ, k, room, deep, n, rfl, b1.fd, hks.mono (b1.tk hf), ok, rfl, hg.fb hf b1, hga, rfl, hl, hn4, rfl, hroom, rfl, hd2, hM, fun H2 r t b2 ir tm => k1 H2 r t (b1.trans b2) ir tm⟩
  have hg0 := hg
  obtain ⟨gxs, eg, ig⟩ := hg
  have hgl : gxs.length = Γ.length := by rw [ig.length, List.length_map]
  have ngf : bp ≠ fp := feed_ne hf eg (iml_noint ig pairs_noint)
  refine ⟨_, (pss_cons (ps_setLc (i := 6) (own := [("_law_x", 13), ("_law_told", 14)]) rfl sc_law_term.nd rfl rfl (sw_true rfl rfl rfl (by decide +kernel)) (pi_list (pv 2)) (blkOk_by (N := ["_law_feed_here", "_law_kinds_here", "_law_boxes_here", "_law_kind", "_law_room", "_law_deep", "_law_some", "_law_form", "_law_small_here", "_law_more", "_law_one", "_law_first", "_law_held", "_law_x", "_law_told", "_law_sort", "_law_parts_here", "_law_f", "_law_tags", "_law_part"]) (sc := defScope s_law_term) (by decide +kernel)) (fun _ _ _ _ _ => (pgT (K := K) (n := 2) rfl rfl (pgs_cons (pg_name (i := 13) sc_law_term.nd rfl (by first | exact .inl rfl | exact .inr rfl)) (pgs_cons (pg_name (i := 14) sc_law_term.nd rfl (by first | exact .inl rfl | exact .inr rfl)) pgs_nil)))) (fun _ _ _ _ _ => (pts_one (pt_cmpR op_eq (pv 14) (pv 3) (nomark _)))) (fun _ _ _ _ _ => (pv 13)))
        (pss_cons (ps_set (i := 7) sc_law_term.nd rfl (by first | exact .inl rfl | exact .inr rfl) (C8.pe_c c_law_take hr (by omega) rfl (pa_cons (pv 0) (pa_cons pe_int pa_nil))))
        (pss_cons (ps_if (PW.pt (pw_and (pt_cmpR op_gt (pe_callB call_len rfl (z_len T) PySem.boot_len (pa_cons (pv 6) pa_nil)) pe_int (nomark _)) (pw_and1 (pt_cmpR op_lt (pv 7) pe_int (nomark _))))) (pss_one (ps_ret (C8.pe_c c_law_boxed hr (by omega) rfl (pa_cons (pv 0) (pa_cons (pv 6) pa_nil))))) pss_nil)
        (pss_cons (ps_set (i := 8) sc_law_term.nd rfl (by first | exact .inl rfl | exact .inr rfl) (C8.pe_c c_law_small hr (by omega) rfl (pa_cons (pv 1) (pa_cons (pv 3) pa_nil))))
        (pss_cons (ps_if (PW.pt (pw_and (pt_cmpR op_eq (pv 7) pe_int (nomark _)) (pw_and (pt_cmpR op_gt (pv 5) pe_int (nomark _)) (pw_and1 (pt_cmpR op_gt (pv 4) (pe_op op_add (pe_op op_mul pe_int (pv 8)) pe_int) (nomark _)))))) (pss_cons (ps_set (i := 9) sc_law_term.nd rfl (by first | exact .inl rfl | exact .inr rfl) (pe_op op_fdiv (pe_op op_sub (pe_op op_sub (pv 4) pe_int) (pe_op op_mul pe_int (pv 8))) pe_int))
        (pss_cons (ps_set (i := 10) sc_law_term.nd rfl (by first | exact .inl rfl | exact .inr rfl) (C8.pe_c c_law_term hr (by omega) rfl (pa_cons (pv 0) (pa_cons (pv 1) (pa_cons (pv 2) (pa_cons pe_str (pa_cons (pe_op op_add pe_int (pv 9)) (pa_cons (pe_op op_sub (pv 5) pe_int) pa_nil))))))))
        (pss_cons (ps_set (i := 11) sc_law_term.nd rfl (by first | exact .inl rfl | exact .inr rfl) (C8.pe_c c_law_term hr (by omega) rfl (pa_cons (pv 0) (pa_cons (pv 1) (pa_cons (pv 2) (pa_cons (pv 3) (pa_cons (pe_op op_add (pv 8) (pv 9)) (pa_cons (pe_op op_sub (pv 5) pe_int) pa_nil))))))))
        (pss_one (ps_ret (pe_tup (pa_cons pe_str (pa_cons (pv 10) (pa_cons (pv 11) (pa_cons (C8.pe_c c_law_term hr (by omega) rfl (pa_cons (pv 0) (pa_cons (pv 1) (pa_cons (pv 2) (pa_cons (pv 3) (pa_cons (pe_op op_add (pv 8) (pv 9)) (pa_cons (pe_op op_sub (pv 5) pe_int) pa_nil))))))) pa_nil)))))))))) pss_nil)
        (pss_cons (ps_if (PW.pt (pw_and (pt_cmpR op_eq (pv 7) pe_int (nomark _)) (pw_and1 (pt_cmpR op_gt (pv 4) pe_int (nomark _))))) (pss_cons (ps_set (i := 12) sc_law_term.nd rfl (by first | exact .inl rfl | exact .inr rfl) (pe_lst pa_nil))
        (pss_cons (ps_for PassesOwn.never rfl (pi_list (pv 2)) (pg_tup rfl (pgs_cons (pg_name (i := 13) sc_law_term.nd rfl (by first | exact .inl rfl | exact .inr rfl)) (pgs_cons (pg_name (i := 14) sc_law_term.nd rfl (by first | exact .inl rfl | exact .inr rfl)) pgs_nil))) (pss_cons (ps_asg (C8.pe_c c_law_sort_of hr (by omega) rfl (pa_cons (pv 1) (pa_cons (pv 14) pa_nil))) (pg_tup rfl (pgs_cons (pg_name (i := 15) sc_law_term.nd rfl (by first | exact .inl rfl | exact .inr rfl)) (pgs_cons (pg_name (i := 16) sc_law_term.nd rfl (by first | exact .inl rfl | exact .inr rfl)) pgs_nil))))
        (pss_one (ps_set (i := 12) sc_law_term.nd rfl (by first | exact .inl rfl | exact .inr rfl) (pe_op op_cat (pv 12) (pe_lc (own := [("_law_f", 17), ("_law_part", 19)]) rfl sc_law_term.nd (pi_tup (pv 16)) (blkOk_by (N := ["_law_feed_here", "_law_kinds_here", "_law_boxes_here", "_law_kind", "_law_room", "_law_deep", "_law_some", "_law_form", "_law_small_here", "_law_more", "_law_one", "_law_first", "_law_held", "_law_x", "_law_told", "_law_sort", "_law_parts_here", "_law_f", "_law_tags", "_law_part"]) (sc := defScope s_law_term) (by decide +kernel)) (fun _ _ _ _ _ => (pgT (K := K) (n := 2) rfl rfl (pgs_cons (pg_name (i := 17) sc_law_term.nd rfl (by first | exact .inl rfl | exact .inr rfl)) (pgs_cons (pg_name (i := 19) sc_law_term.nd rfl (by first | exact .inl rfl | exact .inr rfl)) pgs_nil)))) (fun _ _ _ _ _ => (pts_one (PW.pt (pw_and (pt_cmpR op_eq (pv 15) pe_str (nomark _)) (pw_and1 (pt_cmpR op_eq (pv 19) (pv 3) (nomark _))))))) (fun _ _ _ _ _ => (pe_tup (pa_cons (pv 13) (pa_cons (pv 17) pa_nil))))))))))
        (pss_one (ps_if (pt_cmpR op_gt (pe_callB call_len rfl (z_len T) PySem.boot_len (pa_cons (pv 12) pa_nil)) pe_int (nomark _)) (pss_cons (ps_asg (pe_ix ix_list (pv 12) (C8.pe_c c_law_take hr (by omega) rfl (pa_cons (pv 0) (pa_cons (pe_callB call_len rfl (z_len T) PySem.boot_len (pa_cons (pv 12) pa_nil)) pa_nil))) (fun _ _ => rfl)) (pg_tup rfl (pgs_cons (pg_name (i := 13) sc_law_term.nd rfl (by first | exact .inl rfl | exact .inr rfl)) (pgs_cons (pg_name (i := 17) sc_law_term.nd rfl (by first | exact .inl rfl | exact .inr rfl)) pgs_nil))))
        (pss_one (ps_ret (pe_tup (pa_cons pe_str (pa_cons (pe_tup (pa_cons pe_str (pa_cons (pv 13) pa_nil))) (pa_cons (pv 17) pa_nil))))))) pss_nil)))) pss_nil)
        (pss_cons (ps_if (PW.pt (pw_and (pt_cmpR op_eq (pv 7) pe_int (nomark _)) (pw_and1 (pt_cmpR op_gt (pv 5) pe_int (nomark _))))) (pss_cons (ps_setLc (i := 18) (own := [("_law_x", 13), ("_law_told", 14)]) rfl sc_law_term.nd rfl rfl (sw_true rfl rfl rfl (by decide +kernel)) (pi_list (pv 2)) (blkOk_by (N := ["_law_feed_here", "_law_kinds_here", "_law_boxes_here", "_law_kind", "_law_room", "_law_deep", "_law_some", "_law_form", "_law_small_here", "_law_more", "_law_one", "_law_first", "_law_held", "_law_x", "_law_told", "_law_sort", "_law_parts_here", "_law_f", "_law_tags", "_law_part"]) (sc := defScope s_law_term) (by decide +kernel)) (fun _ _ _ _ _ => (pgT (K := K) (n := 2) rfl rfl (pgs_cons (pg_name (i := 13) sc_law_term.nd rfl (by first | exact .inl rfl | exact .inr rfl)) (pgs_cons (pg_name (i := 14) sc_law_term.nd rfl (by first | exact .inl rfl | exact .inr rfl)) pgs_nil)))) (fun _ _ _ _ _ => (pts_one (pt_cmpR op_eq (pe_ix (ixT (K := K) rfl) (C8.pe_c c_law_sort_of hr (by omega) rfl (pa_cons (pv 1) (pa_cons (pv 14) pa_nil))) pe_int (fun _ _ => rfl)) pe_str (nomark _)))) (fun _ _ _ _ _ => (pv 13)))
        (pss_one (ps_if (pt_cmpR op_gt (pe_callB call_len rfl (z_len T) PySem.boot_len (pa_cons (pv 18) pa_nil)) pe_int (nomark _)) (pss_cons (ps_set (i := 13) sc_law_term.nd rfl (by first | exact .inl rfl | exact .inr rfl) (pe_ix ix_list (pv 18) (C8.pe_c c_law_take hr (by omega) rfl (pa_cons (pv 0) (pa_cons (pe_callB call_len rfl (z_len T) PySem.boot_len (pa_cons (pv 18) pa_nil)) pa_nil))) (fun _ _ => rfl)))
        (pss_cons (ps_set (i := 16) sc_law_term.nd rfl (by first | exact .inl rfl | exact .inr rfl) (pe_ix ix_tup (C8.pe_c c_law_sort_of hr (by omega) rfl (pa_cons (pv 1) (pa_cons (pe_dget hu (pe_callTy (call_dictP rfl) rfl (z_dict T) (by decide +kernel) (pa_cons (pv 2) pa_nil)) (pv 13) (fun _ _ => rfl)) pa_nil))) pe_int (fun _ _ => rfl)))
        (pss_one (ps_if (pt_cmpR op_ge (pe_op op_sub (pv 4) pe_int) (pe_op op_mul (pv 8) (pe_callB call_len rfl (z_len T) PySem.boot_len (pa_cons (pv 16) pa_nil))) (nomark _)) (pss_one (ps_ret (pe_tup (pa_cons pe_str (pa_cons (pe_tup (pa_cons pe_str (pa_cons (pv 13) pa_nil))) (pa_cons (C8.pe_c c_law_arms hr (by omega) rfl (pa_cons (pv 0) (pa_cons (pv 1) (pa_cons (pv 2) (pa_cons (pv 16) (pa_cons (pv 3) (pa_cons (pe_op op_sub (pv 4) pe_int) (pa_cons (pv 5) pa_nil)))))))) pa_nil)))))) pss_nil)))) pss_nil))) pss_nil)
        (pss_one (ps_ret (C8.pe_c c_law_whole_term hr (by omega) rfl (pa_cons (pv 0) (pa_cons (pv 1) (pa_cons (pv 2) (pa_cons (pv 3) (pa_cons (pv 4) (pa_cons (pv 5) pa_nil)))))))))))))))), ?_⟩
  refine ⟨_, rfl, bp, rfl, ⟨_, SqL.of eg⟩, fun D hD => lc_list (K := K) (a := bp) (xs := gxs) (fun i H' => Same H H' ∧ ∃ fl : List Str, H' D = some (.lst (fl.map V.str)) ∧ fl.length ≤ i ∧ ∀ x ∈ fl, (x, k) ∈ Γ) ⟨same_new hD, [], upd_same, Nat.le_refl _, fun x hx => by cases hx⟩ (fun i H' _ q => SqL.of (q.1 _ _ eg)) (fun i x H' hx q => ?_) (fun H1 q => ?_)⟩
  · obtain ⟨t1, fl, hacc, hfl, hall⟩ := q
    obtain ⟨pp, hp, ix⟩ := iml_map ig hx
    obtain ⟨qa, y1, y2, rfl, eqa, i1, i2⟩ := im2 (ix.mono (Tk.of t1))
    cases im_str i1
    cases im_str i2
    have hi : i < Γ.length := (List.getElem?_eq_some_iff.mp hp).1
    refine ⟨qa, _, rfl, SqT.of eqa, rfl, _, _, rfl, _, _, rfl, rfl, rfl, ?_⟩
    refine ⟨_, rfl, _, rfl, rfl, _, rfl, ?_⟩
    by_cases hk : pp.2 = k
    · rw [hk, strT]
      refine iteT ⟨_, rfl, _, hacc, ?_, same_put t1 hD, fl ++ [pp.1], ?_, ?_, ?_⟩
      · rw [List.length_map]
        exact lt_size (by omega)
      · rw [upd_same, List.map_append]
        rfl
      · rw [List.length_append]
        exact Nat.succ_le_succ hfl
      · intro x hx'
        rcases List.mem_append.mp hx' with h | h
        · exact hall x h
        · have := List.mem_singleton.mp h
          subst this
          have := List.mem_of_getElem? hp
          rw [← hk]
          exact this
    · rw [strF hk]
      exact iteF ⟨t1, fl, hacc, by omega, hall⟩
  obtain ⟨s1, fl, hsome, hfl, hfall⟩ := q
  have hf1 := hf.same s1
  refine ⟨_, rfl, fp, 6, rfl, hf1, rfl, by decide, by decide, fun H2 d h0 h1 b2 => ?_⟩
  have b12 := (FB.same hf s1).trans b2
  have hs2 : NmAt H2 D fl := NmAt.fb hf1 b2 hsome
  refine ⟨_, rfl, _, _, rfl, .inl ⟨_, SqL.of hs2, rfl⟩, _, _, rfl, rfl, _, rfl, ?_⟩
  rw [List.length_map]
  -- behind the boxes
  have boxed : 0 < fl.length → spBoxed [.ref fp, .ref D] H2 Q C8.E0 := fun hpos => ⟨fp, D, fl, rfl, b2.fd, rfl, hs2, List.length_pos_iff.mp hpos, by omega, fun H3 r x b3 hx ir => k1 H3 r (boxD x) (b12.trans b3) ir (.inr (.inl ⟨x, rfl, lkE_of_mem hga.nd (hfall x hx)⟩))⟩
  have small3 : ∀ (Q' : VK), (∀ H3, Same H2 H3 → Q' (.int (smallN ks 4 k : Nat)) H3) → spSmall 5 [b, .str k] H2 Q' C8.E0 := fun Q' h => ⟨ks, k, n, hks.mono (b12.tk hf), rfl, by omega, hn4, hl, ok.num, few5, h⟩
  by_cases hsel : 0 < fl.length ∧ d < 3
  · rw [decide_eq_true (by omega : (0 : Int) < (fl.length : Int))]
    refine iteT ⟨_, rfl, _, _, rfl, rfl, _, rfl, ?_⟩
    rw [decide_eq_true hsel.2]
    exact iteT ⟨_, rfl, _, rfl, boxed hsel.1⟩
  have hcs : ((0 : Int) < (fl.length : Int) ∧ ¬ d < 3) ∨ ¬ (0 : Int) < (fl.length : Int) := by omega
  refine viaA ?r fun hrest => Or.elim hcs (fun q => propT q.1 ⟨_, rfl, _, _, rfl, rfl, _, rfl, propF q.2 hrest⟩) (fun q1 => propF q1 (iteF hrest))
  refine ⟨_, rfl, _, rfl, small3 _ fun H3 s3 => ?_⟩
  have b13 := b12.andS s3
  have hsm0 : (0 : Int) ≤ (smallN ks 4 k : Int) := by omega
  have gam : ∀ {m : Nat}, m + 1 = deep → GamOk ks Γ m := fun e => ⟨hga.nd, hga.lev, by omega, fun j hj => hga.fresh j (by omega)⟩
  have tkH3 : Tk H H3 := b13.tk hf
  have eg3 : H3 bp = some (.lst gxs) := b13.ne eg ngf
  have ig3 := ig.mono tkH3
  have hks3 := hks.mono tkH3
  by_cases h3 : d = 3
  · subst h3
    refine ⟨_, rfl, rfl, _, rfl, intT ⟨_, rfl, _, _, rfl, rfl, _, rfl, ?_⟩⟩
    by_cases hdp : 0 < deep
    · refine propT (by omega) ⟨_, rfl, _, rfl, _, _, rfl, rfl, .inl ⟨by decide, by decide⟩, _, _, rfl, rfl, _, _, rfl, rfl, _, rfl, ?_⟩
      by_cases hrm : 2 * (smallN ks 4 k : Int) + 1 < room
      · obtain ⟨m, hm⟩ : ∃ m, m + 1 = deep := ⟨deep - 1, by omega⟩
        have hmo : 0 ≤ (room - 2 - 2 * (smallN ks 4 k : Int)) / 3 := Int.ediv_nonneg (by omega) (by decide)
        have hsmn : smallN ks 4 "num" = 1 := smallN_num ok.num 4
        refine propT hrm ⟨_, rfl, _, _, rfl, rfl, _, rfl, _, _, rfl, rfl, .inl ⟨by decide, by decide⟩, _, _, rfl, rfl, _, _, rfl, rfl, ⟨by decide, by decide⟩, ?_⟩
        refine ⟨_, rfl, _, rfl, _, rfl, _, rfl, _, _, rfl, rfl, _, rfl, _, _, rfl, rfl, fp, ks, bp, Γ, "num", _, m, 0, rfl, b13.fd, hks3, ok, rfl, ⟨gxs, eg3, ig3⟩, gam hm, rfl, rfl, by omega, rfl, (by rw [hsmn]; omega), congrArg V.int (by omega), by omega, by omega, fun H4 r1 t1 b4 ir1 tm1 => ?_⟩
        have b14 := b13.trans b4
        refine ⟨_, rfl, _, rfl, _, rfl, _, rfl, _, rfl, _, rfl, _, _, rfl, rfl, _, rfl, _, _, rfl, rfl, fp, ks, bp, Γ, k, _, m, n, rfl, b14.fd, hks.mono (b14.tk hf), ok, rfl, hg0.fb hf b14, gam hm, rfl, hl, hn4, rfl, (by omega), congrArg V.int (by omega), by omega, by omega, fun H5 r2 t2 b5 ir2 tm2 => ?_⟩
        have b15 := b14.trans b5
        refine ⟨_, rfl, _, rfl, _, rfl, _, rfl, _, rfl, _, rfl, _, rfl, _, rfl, _, _, rfl, rfl, _, rfl, _, _, rfl, rfl, fp, ks, bp, Γ, k, _, m, n, rfl, b15.fd, hks.mono (b15.tk hf), ok, rfl, hg0.fb hf b15, gam hm, rfl, hl, hn4, rfl, (by omega), congrArg V.int (by omega), by omega, by omega, fun H6 r3 t3 b6 ir3 tm3 => ⟨le_size (by show 4 ≤ 100000; decide), fun rr hrr => ?_⟩⟩
        have tk56 := b5.tk b14.fd
        have tk6 := b6.tk b15.fd
        refine k1 _ rr (.tup [.str "if", t1, t2, t3]) ((b15.trans b6).andS (same_new hrr)) (im_new hrr (.cons (.str _) (.cons ((ir1.mono tk56).mono tk6) (.cons (ir2.mono tk6) (.cons ir3 .nil))))) ?_
        exact .inr (.inr (.inr (.inr (.inr (.inr (.inr ⟨t1, t2, t3, rfl, tm1.mono (by omega), tm2.mono (by omega), tm3.mono (by omega)⟩))))))
      · refine propF hrm ?_
        exact ⟨_, rfl, rfl, _, rfl, intF (by decide) (iteF ⟨_, rfl, rfl, _, rfl, intF (by decide) (iteF ⟨_, rfl, _, rfl, _, rfl, _, rfl, _, rfl, _, rfl, whole _ _ b13⟩)⟩)⟩
    · refine propF (by omega) (iteF ?_)
      exact ⟨_, rfl, rfl, _, rfl, intF (by decide) (iteF ⟨_, rfl, rfl, _, rfl, intF (by decide) (iteF ⟨_, rfl, _, rfl, _, rfl, _, rfl, _, rfl, _, rfl, whole _ _ b13⟩)⟩)⟩
  refine ⟨_, rfl, rfl, _, rfl, intF h3 (iteF ?_)⟩
  by_cases h4 : d = 4
  · subst h4
    refine ⟨_, rfl, rfl, _, rfl, intT ⟨_, rfl, _, _, rfl, rfl, _, rfl, ?_⟩⟩
    by_cases hrm : 1 < room
    · refine propT hrm ?_
      refine ⟨le_size (by show 0 ≤ 100000; decide), fun hl0 hhl => ?_⟩
      have s4 : Same H3 (upd H3 hl0 (.lst [])) := same_new hhl
      refine ⟨_, rfl, bp, rfl, ⟨_, SqL.of (s4 _ _ eg3)⟩, for_list (xs := gxs) (fun j σ H' => Same H3 H' ∧ ∃ (hp : Addr) (hs : List (Str × Str)) (acc : List V), H' hp = some (.lst acc) ∧ ImL H' acc (hs.map pairD) ∧ hs.length ≤ 5 * j ∧ (∀ q ∈ hs, ∃ k' kd, (q.1, k') ∈ Γ ∧ lookK ks k' = some kd ∧ kd.alt = false ∧ (q.2, k) ∈ kd.parts) ∧
          ∃ o9 o10 o11 o13 o14 o15 o16 o17 o18 o19, σ = [some (.ref fp), some b, some (.ref bp), some (.str k), some (.int room), some (.int (deep : Nat)), some (.ref D), some (.int 4), some (.int (smallN ks 4 k : Nat)), o9, o10, o11, some (.ref hp), o13, o14, o15, o16, o17, o18, o19])
        ⟨s4, hl0, [], [], upd_same, .nil, Nat.zero_le _, (fun q hq => by cases hq), _, _, _, _, _, _, _, _, _, _, rfl⟩ (fun j σ H' _ z => SqL.of (z.1 _ _ eg3)) ?_ ?_⟩
      · rintro j x σ H' hx ⟨t1, hp, hs, acc, hacc, iacc, hsl, hall, o9, o10, o11, o13, o14, o15, o16, o17, o18, o19, rfl⟩
        obtain ⟨pp, hpp, ix⟩ := iml_map ig3 hx
        have hj : j < Γ.length := (List.getElem?_eq_some_iff.mp hpp).1
        obtain ⟨qa, y1, y2, rfl, eqa, i1, i2⟩ := im2 (ix.mono (Tk.of t1))
        cases im_str i1
        cases im_str i2
        refine ⟨qa, _, rfl, SqT.of eqa, rfl, _, _, rfl, _, _, rfl, rfl, ?_⟩
        refine ⟨_, rfl, _, rfl, ks, pp.2, hks3.mono (Tk.of t1), rfl, fun H5 r5 s5 ir5 => ?_⟩
        obtain ⟨so, pa, pxs, ps, er5, sqp, _, ip, hcase⟩ := sortB_im (K := K) ir5
        have hpxl : pxs.length = ps.length := by rw [ip.length, List.length_map]
        have hps5 : ps.length ≤ 5 := by
          rcases hcase with ⟨_, e, _⟩ | ⟨kd, e1, _, e2, _⟩
          · rw [e]
            exact Nat.zero_le _
          · rw [e2]
            exact few5 kd (lookK_mem e1).1
        refine ⟨r5, _, rfl, SqT.of er5, rfl, _, _, rfl, _, _, rfl, rfl, ?_⟩
        have hacl : acc.length = hs.length := by rw [iacc.length, List.length_map]
        refine ⟨_, rfl, _, rfl, pa, rfl, ⟨_, sqp⟩, fun D2 hD2 => lc_tup (K := K) (a := pa) (xs := pxs) (fun i H6 => Same H5 H6 ∧ ∃ (gs : List (Str × Str)) (ac2 : List V), H6 D2 = some (.lst ac2) ∧ ImL H6 ac2 (gs.map pairD) ∧ gs.length ≤ i ∧ ∀ q ∈ gs, q.1 = pp.1 ∧ so = "rec" ∧ (q.2, k) ∈ ps) ⟨same_new hD2, [], [], upd_same, .nil, Nat.le_refl _, fun q hq => by cases hq⟩ (fun i H6 _ q => sqT_same q.1 sqp) (fun i x H6 hx6 q => ?_) (fun H6 q => ?_)⟩
        · obtain ⟨u1, gs, ac2, hac2, iac2, hgs, hgall⟩ := q
          obtain ⟨p2, hp2, ix2⟩ := iml_map ip hx6
          obtain ⟨qb, z1, z2, rfl, eqb, j1, j2⟩ := im2 (ix2.mono (Tk.of u1))
          cases im_str j1
          cases im_str j2
          have hi : i < ps.length := (List.getElem?_eq_some_iff.mp hp2).1
          refine ⟨qb, _, rfl, SqT.of eqb, rfl, _, _, rfl, _, _, rfl, rfl, rfl, ?_⟩
          refine ⟨_, rfl, rfl, _, rfl, ?_⟩
          by_cases hso : so = "rec"
          · rw [hso, strT]
            refine iteT ⟨_, rfl, _, rfl, rfl, _, rfl, ?_⟩
            by_cases hpk : p2.2 = k
            · rw [hpk, strT]
              refine iteT ⟨_, rfl, _, rfl, le_size (by show 2 ≤ 100000; decide), fun tq htq => ?_⟩
              have w1 : Same H6 (upd H6 tq (.tup [.str pp.1, .str p2.1])) := same_new htq
              refine ⟨ac2, w1 _ _ hac2, ?_, same_put (u1.trans w1) hD2, gs ++ [(pp.1, p2.1)], _, upd_same, ?_, ?_, ?_⟩
              · rw [iac2.length, List.length_map]
                exact lt_size (by omega)
              · rw [List.map_append]
                exact ((iac2.mono (Tk.of w1)).append (ImL.one (im_new htq (.cons (.str _) (.cons (.str _) .nil))))).mono (tk_put (w1 _ _ hac2) ntL)
              · rw [List.length_append]
                exact Nat.succ_le_succ hgs
              · intro q hq
                rcases List.mem_append.mp hq with h | h
                · exact ⟨(hgall q h).1, rfl, (hgall q h).2.2⟩
                · have := List.mem_singleton.mp h
                  subst this
                  refine ⟨rfl, rfl, ?_⟩
                  have := List.mem_of_getElem? hp2
                  rw [← hpk]
                  exact this
            · rw [strF hpk]
              exact iteF ⟨u1, gs, ac2, hac2, iac2, by omega, fun q hq => ⟨(hgall q hq).1, rfl, (hgall q hq).2.2⟩⟩
          · rw [strF hso]
            exact iteF (iteF ⟨u1, gs, ac2, hac2, iac2, by omega, hgall⟩)
        · obtain ⟨u1, gs, ac2, hac2, iac2, hgs, hgall⟩ := q
          have s56 := s5.trans u1
          have hgl2 : ac2.length = gs.length := by rw [iac2.length, List.length_map]
          refine ⟨hp, D2, _, _, rfl, rfl, s56 _ _ hacc, hac2, le_size (by omega), fun np hnp => ?_⟩
          have w1 : Same H6 (upd H6 np (.lst (acc ++ ac2))) := same_new hnp
          refine ⟨(t1.trans s56).trans w1, np, hs ++ gs, _, upd_same, ?_, ?_, ?_, _, _, _, _, _, _, _, _, _, _, rfl⟩
          · rw [List.map_append]
            exact ((iacc.mono (Tk.of s56)).append iac2).mono (Tk.of w1)
          · rw [List.length_append]
            omega
          · intro q hq
            rcases List.mem_append.mp hq with h | h
            · exact hall q h
            · obtain ⟨e1, e2, e3⟩ := hgall q h
              rcases hcase with ⟨_, e, _⟩ | ⟨kd, f1, f2, f3, _⟩
              · rw [e] at e3
                cases e3
              · refine ⟨pp.2, kd, ?_, f1, ?_, f3 ▸ e3⟩
                · rw [e1]
                  exact List.mem_of_getElem? hpp
                · cases ha : kd.alt with
                  | false => rfl
                  | true =>
                    rw [f2, ha] at e2
                    exact absurd e2 (show ¬ ("alt" : Str) = "rec" by decide +kernel)
      · rintro σ H' ⟨t1, hp, hs, acc, hacc, iacc, hsl, hall, o9, o10, o11, o13, o14, o15, o16, o17, o18, o19, rfl⟩
        have b1t := b13.andS t1
        have hacl : acc.length = hs.length := by rw [iacc.length, List.length_map]
        refine ⟨_, rfl, _, _, rfl, .inl ⟨_, SqL.of hacc, rfl⟩, _, _, rfl, rfl, _, rfl, ?_⟩
        by_cases hpos : 0 < acc.length
        · refine propT (by omega) ?_
          refine ⟨_, rfl, _, rfl, _, rfl, _, _, rfl, .inl ⟨_, SqL.of hacc, rfl⟩, fp, _, rfl, b1t.fd, rfl, (by omega), (by omega), fun H6 d6 g0 g1 b6 => ?_⟩
          rw [hacl] at g1
          obtain ⟨q, v, hq, hv, iv⟩ := iml_at iacc g0 g1
          obtain ⟨k', kd, q1, q2, q3, q4⟩ := hall q hq
          have ha6 : H6 hp = some (.lst acc) := b6.ne hacc (feed_ne b1t.fd hacc (iml_noint iacc pairs_noint))
          obtain ⟨va, z1, z2, rfl, ev, i1, i2⟩ := im2 (iv.mono (b6.tk b1t.fd))
          cases im_str i1
          cases im_str i2
          refine ⟨hp, _, _, _, rfl, rfl, SqL.of ha6, hv, va, _, rfl, SqT.of ev, rfl, _, _, rfl, _, _, rfl, rfl, ?_⟩
          refine ⟨_, rfl, le_size (by show 2 ≤ 100000; decide), fun bq hbq => ⟨_, rfl, le_size (by show 3 ≤ 100000; decide), fun rr hrr => ?_⟩⟩
          refine k1 _ rr (.tup [.str "get", boxD q.1, .str q.2]) (((b1t.trans b6).andS (same_new hbq)).andS (same_new hrr)) (im_new hrr (.cons (.str _) (.cons (im_new hbq (.cons (.str _) (.cons (.str _) .nil))) (.cons (.str _) .nil)))) ?_
          exact .inr (.inr (.inr (.inr (.inl ⟨boxD q.1, q.2, k', kd, rfl, .inr (.inl ⟨q.1, rfl, lkE_of_mem hga.nd q1⟩), q2, q3, q4⟩))))
        · refine propF (by omega) ?_
          exact ⟨_, rfl, rfl, _, rfl, intF (by decide) (iteF ⟨_, rfl, _, rfl, _, rfl, _, rfl, _, rfl, _, rfl, whole _ _ b1t⟩)⟩
    · refine propF hrm ?_
      exact ⟨_, rfl, rfl, _, rfl, intF (by decide) (iteF ⟨_, rfl, _, rfl, _, rfl, _, rfl, _, rfl, _, rfl, whole _ _ b13⟩)⟩
  refine ⟨_, rfl, rfl, _, rfl, intF h4 (iteF ?_)⟩
  by_cases h5 : d = 5
  · subst h5
    refine ⟨_, rfl, rfl, _, rfl, intT ⟨_, rfl, _, _, rfl, rfl, _, rfl, ?_⟩⟩
    by_cases hdp : 0 < deep
    · refine propT (by omega) ?_
      obtain ⟨m, rfl⟩ : ∃ m, deep = m + 1 := ⟨deep - 1, by omega⟩
      refine ⟨_, rfl, bp, rfl, ⟨_, SqL.of eg3⟩, fun D2 hD2 => lc_list (K := K) (a := bp) (xs := gxs) (fun i H' => Same H3 H' ∧ ∃ tl : List Str, H' D2 = some (.lst (tl.map V.str)) ∧ tl.length ≤ i ∧ ∀ x ∈ tl, ∃ k' kd, (x, k') ∈ Γ ∧ lookK ks k' = some kd ∧ kd.alt = true) ⟨same_new hD2, [], upd_same, Nat.le_refl _, fun x hx => by cases hx⟩ (fun i H' _ q => SqL.of (q.1 _ _ eg3)) (fun i x H' hx q => ?_) (fun H' q => ?_)⟩
      · obtain ⟨t1, tl, hacc, htl, hall⟩ := q
        obtain ⟨pp, hp, ix⟩ := iml_map ig3 hx
        obtain ⟨qa, y1, y2, rfl, eqa, i1, i2⟩ := im2 (ix.mono (Tk.of t1))
        cases im_str i1
        cases im_str i2
        have hi : i < Γ.length := (List.getElem?_eq_some_iff.mp hp).1
        refine ⟨qa, _, rfl, SqT.of eqa, rfl, _, _, rfl, _, _, rfl, rfl, rfl, ?_⟩
        refine ⟨_, rfl, _, rfl, ks, pp.2, hks3.mono (Tk.of t1), rfl, fun H5 r5 s5 ir5 => ?_⟩
        obtain ⟨so, pa, pxs, ps, er5, sqp, _, ip, hcase⟩ := sortB_im (K := K) ir5
        refine ⟨r5, _, _, _, rfl, rfl, SqT.of er5, at0, rfl, _, rfl, ?_⟩
        by_cases hso : so = "alt"
        · refine propT (congrArg V.str hso) ⟨_, rfl, _, s5 _ _ hacc, ?_, same_put (t1.trans s5) hD2, tl ++ [pp.1], ?_, ?_, ?_⟩
          · rw [List.length_map]
            exact lt_size (by omega)
          · rw [upd_same, List.map_append]
            rfl
          · rw [List.length_append]
            exact Nat.succ_le_succ htl
          · intro x hx'
            rcases List.mem_append.mp hx' with h | h
            · exact hall x h
            · have := List.mem_singleton.mp h
              subst this
              rcases hcase with ⟨e, _, _⟩ | ⟨kd, f1, f2, f3, _⟩
              · rw [e] at hso
                exact absurd hso (show ¬ ("num" : Str) = "alt" by decide +kernel)
              · refine ⟨pp.2, kd, List.mem_of_getElem? hp, f1, ?_⟩
                cases ha : kd.alt with
                | true => rfl
                | false =>
                  rw [f2, ha] at hso
                  exact absurd hso (show ¬ ("rec" : Str) = "alt" by decide +kernel)
        · exact propF (fun e => hso (V.str.inj e)) ⟨t1.trans s5, tl, s5 _ _ hacc, by omega, hall⟩
      · obtain ⟨t1, tl, hacc, htl, hall⟩ := q
        have b1t := b13.andS t1
        have htlV : NmAt H' D2 tl := hacc
        refine ⟨_, rfl, _, _, rfl, .inl ⟨_, SqL.of hacc, rfl⟩, _, _, rfl, rfl, _, rfl, ?_⟩
        by_cases hpos : 0 < tl.length
        · refine propT (by rw [List.length_map]; omega) ?_
          refine ⟨_, rfl, _, rfl, _, rfl, _, _, rfl, .inl ⟨_, SqL.of hacc, rfl⟩, fp, _, rfl, b1t.fd, rfl, (by rw [List.length_map]; omega), (by rw [List.length_map]; omega), fun H6 d6 g0 g1 b6 => ?_⟩
          rw [List.length_map] at g1
          obtain ⟨x, hxm, hxv⟩ := str_at g0 g1
          obtain ⟨k', kd, q1, q2, q3⟩ := hall x hxm
          refine ⟨D2, _, _, _, rfl, rfl, SqL.of (htlV.fb b1t.fd b6), hxv, ?_⟩
          have b16 := b1t.trans b6
          have eg6 : H6 bp = some (.lst gxs) := b16.ne eg ngf
          have ig6 := ig.mono (b16.tk hf)
          obtain ⟨qs, kvs, hqs, hpr, hkv⟩ := pairs_lst (K := K) ig6
          rw [hqs] at eg6
          refine ⟨_, rfl, _, rfl, bp, qs, kvs, rfl, SqL.of eg6, hpr, fun D7 hD7 => ?_⟩
          have hkv7 : KvI (upd H6 D7 (.dK (mergeK [] kvs))) (mergeK [] kvs) (kindsE Γ) := by
            have z := kvI_merge (hkv.mono (Tk.of (same_new (o := .dK (mergeK [] kvs)) hD7))) (ks := []) (ρ := []) .nil (by rw [List.nil_append]; unfold kindsE; rw [List.map_map]; exact hga.nd)
            exact z
          generalize mergeK [] kvs = mk7 at hkv7 ⊢
          have s7 : Same H6 (upd H6 D7 (.dK mk7)) := same_new hD7
          have e7 : upd H6 D7 (.dK mk7) D7 = some (.dK mk7) := upd_same
          generalize upd H6 D7 (.dK mk7) = H7 at hkv7 s7 e7 ⊢
          have b17 := b16.andS s7
          obtain ⟨u, u1, u2⟩ := hkv7.has (show lkE (kindsE Γ) x = some (.str k') from lkE_map (g := fun p : Str × Str => p.1) (f := fun p => Da.str p.2) hga.nd q1)
          cases im_str u2
          refine ⟨_, rfl, D7, _, rfl, u1 ▸ dget_s (rd_of e7), ks, k', hks.mono (b17.tk hf), rfl, fun H8 r8 s8 ir8 => ?_⟩
          obtain ⟨so, pa, pxs, ps, er8, sqp, _, ip, hcase⟩ := sortB_im (K := K) ir8
          have b18 := b17.andS s8
          rcases hcase with ⟨_, _, e⟩ | ⟨kd2, f1, f2, f3, f4⟩
          · rw [q2] at e
            cases e
          rw [q2] at f1
          cases f1
          subst f3
          have hkm := (lookK_mem q2).1
          have hlvp := ok.lvp q2
          have hpxl : pxs.length = kd.parts.length := by rw [ip.length, List.length_map]
          refine ⟨r8, _, _, _, rfl, rfl, SqT.of er8, at1, ?_⟩
          have hk5 := few5 kd hkm
          refine ⟨_, rfl, _, _, rfl, rfl, _, rfl, _, rfl, _, _, rfl, .inr ⟨_, sqp, rfl⟩, _, _, rfl, rfl, .inr ⟨by rw [hpxl]; omega, by rw [hpxl]; omega⟩, _, _, rfl, rfl, _, rfl, ?_⟩
          rw [hpxl]
          by_cases hge : (smallN ks 4 k : Int) * (kd.parts.length : Int) ≤ room - 2
          · refine propT hge ?_
            refine ⟨_, rfl, le_size (by show 2 ≤ 100000; decide), fun bq hbq => ?_⟩
            have s9 : Same H8 (upd H8 bq (.tup [.str "box", .str x])) := same_new hbq
            have ibq : Im (upd H8 bq (.tup [.str "box", .str x])) (.ref bq) (boxD x) := im_new hbq (.cons (.str _) (.cons (.str _) .nil))
            generalize upd H8 bq (.tup [.str "box", .str x]) = H9 at s9 ibq ⊢
            have b19 := b18.andS s9
            refine ⟨_, rfl, _, rfl, _, rfl, _, rfl, _, rfl, _, rfl, _, _, rfl, rfl, _, rfl, fp, ks, bp, Γ, kd, k, _, m, n, rfl, b19.fd, hks.mono (b19.tk hf), ok, rfl, hg0.fb hf b19, hga, f4.mono (Tk.of s9), hlvp.1 q3, hk5, (fun p hp => (hlvp.2 p hp).mono (by decide)), rfl, hl, hn4, rfl, hge, rfl, by omega, by omega, fun HA ra arms bA irA hform hall2 => ?_⟩
            refine ⟨le_size (by show 3 ≤ 100000; decide), fun rr hrr => ?_⟩
            refine k1 _ rr (.tup [.str "case", boxD x, .tup arms]) ((b19.trans bA).andS (same_new hrr)) (im_new hrr (.cons (.str _) (.cons (ibq.mono (bA.tk b19.fd)) (.cons irA .nil)))) ?_
            have e9 : m + 1 + n + 2 = (m + n + 2) + 1 := by omega
            rw [e9]
            exact .inr (.inr (.inr (.inr (.inr (.inr (.inl ⟨boxD x, arms, k', kd, rfl, .inr (.inl ⟨x, rfl, lkE_of_mem hga.nd q1⟩), q2, q3, hform, hall2⟩))))))
          · refine propF hge ?_
            exact ⟨_, rfl, _, rfl, _, rfl, _, rfl, _, rfl, _, rfl, whole _ _ b18⟩
        · refine propF (by rw [List.length_map]; omega) ?_
          exact ⟨_, rfl, _, rfl, _, rfl, _, rfl, _, rfl, _, rfl, whole _ _ b1t⟩
    · refine propF (by omega) ?_
      exact ⟨_, rfl, _, rfl, _, rfl, _, rfl, _, rfl, _, rfl, whole _ _ b13⟩
  exact ⟨_, rfl, rfl, _, rfl, intF h5 (iteF ⟨_, rfl, _, rfl, _, rfl, _, rfl, _, rfl, _, rfl, whole _ _ b13⟩)⟩
end
end SwK
set_option maxHeartbeats 8000000
/-! the builder: new terms, channels -/
namespace SwK
open PySem PySem.Spec PyProof.Rows L2
def spNewT : Sp := sp4 fun a b c d H Q => ∃ fp ks bp Γ k, a = .ref fp ∧ Feed H fp ∧ Im H b (kindsD ks) ∧ KsOk ks ∧ c = .ref bp ∧ GmAt H bp Γ ∧ GamOk ks Γ 2 ∧ d = .str k ∧ LvK ks 4 k ∧ ∀ H' r t, FB fp H H' → Im H' (.ref r) t → Tm ks 8 Γ k t → Q (.ref r) H'
theorem nm_at {l : List Str} {h : Nat} (hl : h ≤ l.length) {d : Int} (h0 : 0 ≤ d) (h1 : d < (h : Int)) : ∃ x ∈ l.take h, atI (l.map V.str) d = some (.str x) := by
  have hd : d = ((d.toNat : Nat) : Int) := by omega
  have hi : d.toNat < l.length := by omega
  have key : atI (l.map V.str) ((d.toNat : Nat) : Int) = some (.str l[d.toNat]) := atI_nat (by rw [List.getElem?_map, List.getElem?_eq_getElem hi]; rfl)
  rw [← hd] at key
  refine ⟨_, List.mem_of_getElem? (i := d.toNat) ?_, key⟩
  rw [List.getElem?_take_of_lt (by omega), List.getElem?_eq_getElem hi]
/-- channels that are right -/
structure CsOk (ns : List Str) (ks : List Kd) (h : Nat) (cs : List Ch) : Prop where
  name : cs.map Ch.name = (ns.drop 12).take cs.length
  few : cs.length ≤ 5
  ends : ∀ c ∈ cs, c.src ∈ ns.take h ∧ c.dst ∈ ns.take h ∧ Knows ks c.kind
def spChans : Sp := sp4 fun a b c d H Q => ∃ (fp : Addr) (ks : List Kd) (np : Addr) (ns : List Str) (h : Nat), a = .ref fp ∧ Feed H fp ∧ Im H b (kindsD ks) ∧ ks.length ≤ 4 ∧ c = .ref np ∧ NmAt H np ns ∧ NsOk ns ∧ d = .int (h : Nat) ∧ 1 ≤ h ∧ h ≤ 4 ∧
  ∀ H' r cs, FB fp H H' → Im H' (.ref r) (.tup (cs.map Ch.d)) → CsOk ns ks h cs → Q (.ref r) H'
section
variable {P : Program} {w : World} {K : PySem.W.Frag} {mg : Str → Option Value} {base : Heap}
theorem law_term_none {k : Nat} (T : Txt K mg) : C8.Cal P w K mg base (k + 1) "_law_term" (spTerm 0) [] := by
  refine mkCal (k := k) (f_law_term T) (g_law_term T) sc_law_term (fun _ _ _ _ _ _ us hl => match us, hl with | [_, _, _, _, _, _], _ => rfl) (fun vs H Q E h => ?_) (fun vs H Q E h => ?_)
  · obtain ⟨a, b, c, d, e, g, rfl, _⟩ := sp6_len h
    rfl
  · obtain ⟨a, b, c, d, e, g, rfl, fp, ks, bp, Γ, k', room, deep, n, _, _, _, _, _, _, _, _, _, _, _, _, _, _, hM, _⟩ := sp6_len h
    exact absurd hM (Nat.not_lt_zero _)
theorem ok_law_term (T : Txt K mg) (c_law_take : C8.Cal P w K mg base 1 "_law_take" spTake []) (c_law_number : C8.Cal P w K mg base 2 "_law_number" spNumber []) (c_law_boxed : C8.Cal P w K mg base 2 "_law_boxed" spBoxed []) (c_law_sort_of : C8.Cal P w K mg base 1 "_law_sort_of" spSortB []) (c_law_small : C8.Cal P w K mg base 7 "_law_small" (spSmall 5) []) :
    ∀ M : Nat, C8.Cal P w K mg base (10 + 2 * M) "_law_term" (spTerm M) []
  | 0 => law_term_none T
  | M + 1 => by
    have ih := ok_law_term T c_law_take c_law_number c_law_boxed c_law_sort_of c_law_small M
    have h10 : 10 ≤ 10 + 2 * M := Nat.le_add_right _ _
    have h3 : 3 ≤ 10 + 2 * M := Nat.le_trans (by decide) h10
    exact law_term_step T (L := 10 + 2 * M) h10 c_law_take c_law_boxed c_law_sort_of c_law_small ih (ok_law_arms T h3 c_law_take ih) (ok_law_whole T h10 c_law_take c_law_number c_law_sort_of c_law_small ih)
/- _law_new_term: slots 0 _law_feed_here 1 _law_kinds_here 2 _law_boxes_here 3 _law_kind -/
theorem sc_law_new_term : FnScope ["_law_feed_here", "_law_kinds_here", "_law_boxes_here", "_law_kind"] ["_law_feed_here", "_law_kinds_here", "_law_boxes_here", "_law_kind"] (defScope s_law_new_term) := ⟨rfl, rfl, rfl, by decide +kernel, rfl, by decide +kernel, by decide +kernel⟩
theorem ok_law_new_term (T : Txt K mg) (c_law_take : C8.Cal P w K mg base 1 "_law_take" spTake []) (c_law_small : C8.Cal P w K mg base 7 "_law_small" (spSmall 5) []) (c_law_term : C8.Cal P w K mg base 40 "_law_term" (spTerm 15) []) : C8.Cal P w K mg base 41 "_law_new_term" spNewT [] := by
  refine mkCal (f_law_new_term T) (g_law_new_term T) sc_law_new_term (fun _ _ _ _ _ _ us hl => match us, hl with | [_, _, _, _], _ => rfl) (fun vs H Q E h => ?_) (fun vs H Q E h => ?_)
  · obtain ⟨a, b, c, d, rfl, _⟩ := sp4_len h
    rfl
  obtain ⟨a, b, c, d, rfl, h⟩ := sp4_len h
  intro cdv A outer s E hr
  have hu := hu_of hr
  obtain ⟨fp, ks, bp, Γ, k, rfl, hf, hks, ok, rfl, hg, hga, rfl, hl, k1⟩ := h
  refine ⟨_, (pss_one (ps_ret (C8.pe_c c_law_term hr (by omega) rfl (pa_cons (pv 0) (pa_cons (pv 1) (pa_cons (pv 2) (pa_cons (pv 3) (pa_cons (pe_op op_add (C8.pe_c c_law_small hr (by omega) rfl (pa_cons (pv 1) (pa_cons (pv 3) pa_nil))) (C8.pe_c c_law_take hr (by omega) rfl (pa_cons (pv 0) (pa_cons pe_int pa_nil)))) (pa_cons pe_int pa_nil))))))))), ?_⟩
  refine ⟨_, rfl, _, rfl, _, rfl, _, rfl, _, rfl, _, rfl, ks, k, 4, hks, rfl, by decide, by decide, hl, ok.num, ok.few, fun H1 s1 => ⟨_, rfl, fp, 10, rfl, hf.same s1, rfl, by decide, by decide, fun H2 d h0 h1 b2 => ?_⟩⟩
  have b12 := (FB.same hf s1).trans b2
  exact ⟨_, _, rfl, rfl, fp, ks, bp, Γ, k, _, 2, 4, rfl, b12.fd, hks.mono (b12.tk hf), ok, rfl, hg.fb hf b12, hga, rfl, hl, by decide, rfl, (by omega), rfl, by decide, by decide, fun H3 r t b3 ir tm => k1 H3 r t (b12.trans b3) ir tm⟩
/- _law_channels: slots 0 _law_feed_here 1 _law_kinds_here 2 _law_names_here 3 _law_hands_here 4 _law_found 5 _law_turn 6 _law_k 7 _law_ends -/
theorem sc_law_channels : FnScope ["_law_feed_here", "_law_kinds_here", "_law_names_here", "_law_hands_here", "_law_found", "_law_turn", "_law_k", "_law_ends"] ["_law_feed_here", "_law_kinds_here", "_law_names_here", "_law_hands_here"] (defScope s_law_channels) := ⟨rfl, rfl, rfl, by decide +kernel, rfl, by decide +kernel, by decide +kernel⟩
theorem ok_law_channels (T : Txt K mg) (c_law_take : C8.Cal P w K mg base 1 "_law_take" spTake []) (c_law_any_kind : C8.Cal P w K mg base 2 "_law_any_kind" spAnyK []) : C8.Cal P w K mg base 3 "_law_channels" spChans [] := by
  refine mkCal (f_law_channels T) (g_law_channels T) sc_law_channels (fun _ _ _ _ _ _ us hl => match us, hl with | [_, _, _, _], _ => rfl) (fun vs H Q E h => ?_) (fun vs H Q E h => ?_)
  · obtain ⟨a, b, c, d, rfl, _⟩ := sp4_len h
    rfl
  obtain ⟨a, b, c, d, rfl, h⟩ := sp4_len h
  intro cdv A outer s E hr
  have hu := hu_of hr
  obtain ⟨fp, ks, np, ns, hn, rfl, hf, hks, hkl, rfl, hnp, hns, rfl, hh1, hh4, k1⟩ := h
  refine ⟨_, (pss_cons (ps_set (i := 4) sc_law_channels.nd rfl (by first | exact .inl rfl | exact .inr rfl) (pe_lst pa_nil))
        (pss_cons (ps_set (i := 5) sc_law_channels.nd rfl (by first | exact .inl rfl | exact .inr rfl) (C8.pe_c c_law_take hr (by omega) rfl (pa_cons (pv 0) (pa_cons (pv 3) pa_nil))))
        (pss_cons (ps_for PassesOwn.never rfl (pi_range1 rfl (z_range T) (pa_cons (pe_callB (call_max2 rfl) rfl (z_max T) (by decide +kernel) (pa_cons (C8.pe_c c_law_take hr (by omega) rfl (pa_cons (pv 0) (pa_cons pe_int pa_nil))) (pa_cons (pe_op op_mul (pv 3) (pe_callTy call_int1 rfl (z_int T) (by decide +kernel) (pa_cons (pe_cmpR op_gt (C8.pe_c c_law_take hr (by omega) rfl (pa_cons (pv 0) (pa_cons pe_int pa_nil))) pe_int (nomark _)) pa_nil))) pa_nil))) pa_nil)) (pg_name (i := 6) sc_law_channels.nd rfl (by first | exact .inl rfl | exact .inr rfl)) (pss_cons (ps_set (i := 7) sc_law_channels.nd rfl (by first | exact .inl rfl | exact .inr rfl) (pe_tup (pa_cons (pe_ix ix_list (pv 2) (C8.pe_c c_law_take hr (by omega) rfl (pa_cons (pv 0) (pa_cons (pv 3) pa_nil))) (fun _ _ => rfl)) (pa_cons (pe_ix ix_list (pv 2) (C8.pe_c c_law_take hr (by omega) rfl (pa_cons (pv 0) (pa_cons (pv 3) pa_nil))) (fun _ _ => rfl)) pa_nil))))
        (pss_cons (ps_if (PW.pt (pw_and (pt_cmpR op_lt (pv 6) (pv 3) (nomark _)) (pw_and1 (pt_cmpR op_gt (C8.pe_c c_law_take hr (by omega) rfl (pa_cons (pv 0) (pa_cons pe_int pa_nil))) pe_int (nomark _))))) (pss_one (ps_set (i := 7) sc_law_channels.nd rfl (by first | exact .inl rfl | exact .inr rfl) (pe_tup (pa_cons (pe_ix ix_tup (pv 7) pe_int (fun _ _ => rfl)) (pa_cons (pe_ix ix_list (pv 2) (pe_op op_mod (pe_op op_add (pv 5) (pv 6)) (pv 3)) (fun _ _ => rfl)) pa_nil))))) pss_nil)
        (pss_one (ps_expr (pe_bm PySem.F.plainAttrs_list PySem.F.slot_list_append PySem.F.type_list_append mt_append (pv 4) (pa_cons (pe_tup (pa_cons (pe_ix ix_list (pv 2) (pe_op op_add pe_int (pv 6)) (fun _ _ => rfl)) (pa_cons (pe_ix ix_tup (pv 7) pe_int (fun _ _ => rfl)) (pa_cons (pe_ix ix_tup (pv 7) pe_int (fun _ _ => rfl)) (pa_cons (C8.pe_c c_law_any_kind hr (by omega) rfl (pa_cons (pv 0) (pa_cons (pv 1) pa_nil))) pa_nil))))) pa_nil)))))))
        (pss_one (ps_ret (pe_callTy call_tuple_of rfl (z_tuple T) (by decide +kernel) (pa_cons (pv 4) pa_nil))))))), ?_⟩
  refine ⟨le_size (by show 0 ≤ 100000; decide), fun cl hcl => ?_⟩
  have s1 : Same H (upd H cl (.lst [])) := same_new hcl
  have ecl : upd H cl (.lst []) cl = some (.lst []) := upd_same
  have hf1 := hf.same s1
  have ncl : ∀ {z : Addr} {o : HO}, H z = some o → z ≠ cl := fun h e => by rw [e, hcl] at h; cases h
  have fcl : fp ≠ cl := by
    obtain ⟨x, y, e, _⟩ := hf
    exact ncl e
  have nnf : np ≠ fp := feed_ne hf hnp nm_noint
  have nnc : np ≠ cl := ncl hnp
  have ntk : ∀ {H' : Hp}, Bt (fun a => a = fp ∨ a = cl) H H' → Tk H H' := fun bt => bt.tk fun a o ea e => by
    rcases ea with q | q
    · obtain ⟨x, y, e', _⟩ := hf
      rw [q, e'] at e
      cases e
      exact ntL
    · rw [q, hcl] at e
      cases e
  generalize upd H cl (.lst []) = H1 at s1 ecl hf1 ⊢
  have hpos : (1 : Int) ≤ (hn : Int) := by omega
  have hbig : (hn : Int) ≤ 4294967296 := by omega
  refine ⟨_, rfl, _, rfl, fp, _, rfl, hf1, rfl, hpos, hbig, fun H2 turn t1 t2 b2 => ?_⟩
  refine ⟨_, rfl, fp, 6, rfl, b2.fd, rfl, by decide, by decide, fun H3 d3 h30 h31 b3 => ?_⟩
  refine ⟨_, rfl, _, rfl, fp, 5, rfl, b3.fd, rfl, by decide, by decide, fun H4 d4 h40 h41 b4 => ⟨_, _, rfl, rfl, .inr ⟨_, rfl, _, _, rfl, rfl, .inl ⟨by omega, by omega⟩, _, _, rfl, _, rfl, ?_⟩⟩⟩
  have b14 := (b2.trans b3).trans b4
  obtain ⟨n, hn5, hnE⟩ : ∃ n : Nat, n ≤ 5 ∧ (if (hn : Int) * (if decide (0 < d4) = true then 1 else 0) > d3 then (hn : Int) * (if decide (0 < d4) = true then 1 else 0) else d3) = (n : Int) := by
    have hx : (if decide (0 < d4) = true then (1 : Int) else 0) = 0 ∨ (if decide (0 < d4) = true then (1 : Int) else 0) = 1 := by
      split
      · exact .inr rfl
      · exact .inl rfl
    generalize (if decide (0 < d4) = true then (1 : Int) else 0) = z at hx ⊢
    refine ⟨(if (hn : Int) * z > d3 then (hn : Int) * z else d3).toNat, ?_, ?_⟩
    · rcases hx with rfl | rfl <;> (split <;> omega)
    · rcases hx with rfl | rfl <;> (split <;> omega)
  rw [hnE]
  refine ⟨by omega, by omega, ?_⟩
  rw [Int.toNat_natCast]
  have hl26 := hns.len
  refine for_range (fun j σ H' => Bt (fun a => a = fp ∨ a = cl) H H' ∧ Feed H' fp ∧ (∃ (cs : List Ch) (acc : List V), H' cl = some (.lst acc) ∧ ImL H' acc (cs.map Ch.d) ∧ CsOk ns ks hn cs ∧ cs.length = j) ∧ ∃ (o6 o7 : Option V), σ = [some (.ref fp), some b, some (.ref np), some (.int (hn : Nat)), some (.ref cl), some (.int turn), o6, o7]) ⟨?_, b14.fd, ⟨[], [], b14.ne ecl (Ne.symm fcl), .nil, ⟨rfl, by decide, fun c hc => by cases hc⟩, rfl⟩, _, _, rfl⟩ ?_ ?_
  · intro a o e na
    exact b14.bt _ _ (s1 _ _ e) fun q => na (.inl q)
  · rintro j σ H' hj ⟨bt, hfd, ⟨cs, acc, hacc, iacc, gk, hcj⟩, o6, o7, rfl⟩
    have hacl : acc.length = j := by rw [iacc.length, List.length_map]; exact hcj
    have enp' : NmAt H' np ns := bt _ _ hnp (by rintro (q | q); exact nnf q; exact nnc q)
    have tkH := ntk bt
    obtain ⟨nm, hnm⟩ : ∃ nm, ns[12 + j]? = some nm := ⟨ns[12 + j]'(by omega), by simp⟩
    have hnmV : (ns.map V.str)[12 + j]? = some (V.str nm) := by rw [List.getElem?_map, hnm]; rfl
    have csnext : ∀ (nm x y kk : Str), ns[12 + j]? = some nm → x ∈ ns.take hn → y ∈ ns.take hn → Knows ks kk → CsOk ns ks hn (cs ++ [⟨nm, x, y, kk⟩]) := by
      intro nm x y kk e hx hy hk
      refine ⟨?_, ?_, fun c hc => ?_⟩
      · rw [List.map_append, gk.name, List.length_append]
        show (ns.drop 12).take cs.length ++ [nm] = (ns.drop 12).take (cs.length + 1)
        rw [take_snoc]
        rw [List.getElem?_drop, hcj]
        exact e
      · rw [List.length_append]
        show cs.length + 1 ≤ 5
        omega
      · rcases List.mem_append.mp hc with q | q
        · exact gk.ends c q
        · have := List.mem_singleton.mp q
          subst this
          exact ⟨hx, hy, hk⟩
    have hle : hn ≤ ns.length := by omega
    refine ⟨_, rfl, _, rfl, _, rfl, fp, _, rfl, hfd, rfl, hpos, hbig, fun H5 d5 p5 q5 b5 => ?_⟩
    obtain ⟨x, hx, hxv⟩ := nm_at hle p5 q5
    refine ⟨np, _, _, _, rfl, rfl, SqL.of (enp'.fb hfd b5), hxv, ?_⟩
    refine ⟨_, rfl, _, rfl, _, rfl, fp, _, rfl, b5.fd, rfl, hpos, hbig, fun H6 d6 p6 q6 b6 => ?_⟩
    obtain ⟨y, hy, hyv⟩ := nm_at hle p6 q6
    have b56 := b5.trans b6
    refine ⟨np, _, _, _, rfl, rfl, SqL.of (enp'.fb hfd b56), hyv, le_size (by show 2 ≤ 100000; decide), fun eq heq => ?_⟩
    have v7 : Same H6 (upd H6 eq (.tup [.str x, .str y])) := same_new heq
    have eeq : upd H6 eq (.tup [.str x, .str y]) eq = some (.tup [.str x, .str y]) := upd_same
    generalize upd H6 eq (.tup [.str x, .str y]) = H7 at v7 eeq ⊢
    have b57 := b56.andS v7
    refine ⟨_, rfl, _, rfl, _, _, rfl, rfl, _, rfl, ?_⟩
    rw [Int.zero_add]
    by_cases hjh : (j : Int) < (hn : Int)
    · refine propT hjh ⟨_, rfl, fp, 6, rfl, b57.fd, rfl, by decide, by decide, fun H8 d8 p8 q8 b8 => ⟨_, _, rfl, rfl, _, rfl, ?_⟩⟩
      have b58 := b57.trans b8
      have eeq8 := b8.bt _ _ eeq (by rintro rfl; obtain ⟨x', y', e, _⟩ := b57.fd; rw [e] at eeq; cases eeq)
      by_cases h80 : 0 < d8
      · refine propT h80 ?_
        have hm1 := Int.emod_nonneg (turn + (j : Int)) (show (hn : Int) ≠ 0 by omega)
        have hm2 := Int.emod_lt_of_pos (turn + (j : Int)) (show (0 : Int) < (hn : Int) by omega)
        obtain ⟨y2, hy2, hyv2⟩ := nm_at hle hm1 hm2
        refine ⟨_, rfl, eq, _, _, _, rfl, rfl, SqT.of eeq8, at0, _, rfl, _, rfl, _, rfl, _, _, rfl, rfl, _, rfl, _, _, rfl, rfl, (by omega), np, _, _, _, rfl, rfl, SqL.of (enp'.fb hfd b58), hyv2, le_size (by show 2 ≤ 100000; decide), fun eq2 heq2 => ?_⟩
        have v9 : Same H8 (upd H8 eq2 (.tup [.str x, .str y2])) := same_new heq2
        have eeq9 : upd H8 eq2 (.tup [.str x, .str y2]) eq2 = some (.tup [.str x, .str y2]) := upd_same
        generalize upd H8 eq2 (.tup [.str x, .str y2]) = H9 at v9 eeq9 ⊢
        have b59 := b58.andS v9
        refine ⟨_, rfl, .inl ⟨rfl, _, SqL.of (b59.ne hacc (Ne.symm fcl))⟩, _, rfl, _, rfl, _, _, rfl, rfl, np, _, _, _, rfl, rfl, SqL.of (enp'.fb hfd b59), (show atI (ns.map V.str) ((12 + j : Nat) : Int) = some (V.str nm) from atI_nat hnmV), _, rfl, eq2, _, _, _, rfl, rfl, SqT.of eeq9, at0, _, rfl, eq2, _, _, _, rfl, rfl, SqT.of eeq9, at1, _, rfl, _, rfl, fp, ks, rfl, b59.fd, hks.mono (tkH.trans (b59.tk hfd)), hkl, fun Hk kk bk hkk => ⟨le_size (by show 4 ≤ 100000; decide), fun tq htq => ?_⟩⟩
        have bz := (b59.trans bk).andS (same_new (o := .tup [.str nm, .str x, .str y2, .str kk]) htq)
        have hz := bz.ne hacc (Ne.symm fcl)
        refine ⟨cl, _, _, rfl, rfl, hz, lt_size (by omega), ?_⟩
        have itq : Im (upd Hk tq (.tup [.str nm, .str x, .str y2, .str kk])) (.ref tq) (Ch.d ⟨nm, x, y2, kk⟩) := im_new htq (.cons (.str _) (.cons (.str _) (.cons (.str _) (.cons (.str _) .nil))))
        have tkp := tk_put (o := .lst (acc ++ [.ref tq])) hz ntL
        refine ⟨(bt.trans fun a o e na => bz.bt _ _ e fun q => na (.inl q)).trans (Bt.put (.inr rfl)), ?_, ⟨cs ++ [⟨nm, x, y2, kk⟩], _, upd_same, ?_, csnext nm x y2 kk hnm hx hy2 hkk, by rw [List.length_append, hcj]; rfl⟩, _, _, rfl⟩
        · obtain ⟨x, y, e, q1, q2⟩ := bz.fd
          exact ⟨x, y, (upd_ne fcl).trans e, q1, q2⟩
        · rw [List.map_append]
          exact ((iacc.mono (bz.tk hfd)).append (ImL.one itq)).mono tkp
      · refine propF h80 ?_
        refine ⟨_, rfl, .inl ⟨rfl, _, SqL.of (b58.ne hacc (Ne.symm fcl))⟩, _, rfl, _, rfl, _, _, rfl, rfl, np, _, _, _, rfl, rfl, SqL.of (enp'.fb hfd b58), (show atI (ns.map V.str) ((12 + j : Nat) : Int) = some (V.str nm) from atI_nat hnmV), _, rfl, eq, _, _, _, rfl, rfl, SqT.of eeq8, at0, _, rfl, eq, _, _, _, rfl, rfl, SqT.of eeq8, at1, _, rfl, _, rfl, fp, ks, rfl, b58.fd, hks.mono (tkH.trans (b58.tk hfd)), hkl, fun Hk kk bk hkk => ⟨le_size (by show 4 ≤ 100000; decide), fun tq htq => ?_⟩⟩
        have bz := (b58.trans bk).andS (same_new (o := .tup [.str nm, .str x, .str y, .str kk]) htq)
        have hz := bz.ne hacc (Ne.symm fcl)
        refine ⟨cl, _, _, rfl, rfl, hz, lt_size (by omega), ?_⟩
        have itq : Im (upd Hk tq (.tup [.str nm, .str x, .str y, .str kk])) (.ref tq) (Ch.d ⟨nm, x, y, kk⟩) := im_new htq (.cons (.str _) (.cons (.str _) (.cons (.str _) (.cons (.str _) .nil))))
        have tkp := tk_put (o := .lst (acc ++ [.ref tq])) hz ntL
        refine ⟨(bt.trans fun a o e na => bz.bt _ _ e fun q => na (.inl q)).trans (Bt.put (.inr rfl)), ?_, ⟨cs ++ [⟨nm, x, y, kk⟩], _, upd_same, ?_, csnext nm x y kk hnm hx hy hkk, by rw [List.length_append, hcj]; rfl⟩, _, _, rfl⟩
        · obtain ⟨x, y, e, q1, q2⟩ := bz.fd
          exact ⟨x, y, (upd_ne fcl).trans e, q1, q2⟩
        · rw [List.map_append]
          exact ((iacc.mono (bz.tk hfd)).append (ImL.one itq)).mono tkp
    · refine propF hjh (iteF ?_)
      refine ⟨_, rfl, .inl ⟨rfl, _, SqL.of (b57.ne hacc (Ne.symm fcl))⟩, _, rfl, _, rfl, _, _, rfl, rfl, np, _, _, _, rfl, rfl, SqL.of (enp'.fb hfd b57), (show atI (ns.map V.str) ((12 + j : Nat) : Int) = some (V.str nm) from atI_nat hnmV), _, rfl, eq, _, _, _, rfl, rfl, SqT.of eeq, at0, _, rfl, eq, _, _, _, rfl, rfl, SqT.of eeq, at1, _, rfl, _, rfl, fp, ks, rfl, b57.fd, hks.mono (tkH.trans (b57.tk hfd)), hkl, fun Hk kk bk hkk => ⟨le_size (by show 4 ≤ 100000; decide), fun tq htq => ?_⟩⟩
      have bz := (b57.trans bk).andS (same_new (o := .tup [.str nm, .str x, .str y, .str kk]) htq)
      have hz := bz.ne hacc (Ne.symm fcl)
      refine ⟨cl, _, _, rfl, rfl, hz, lt_size (by omega), ?_⟩
      have itq : Im (upd Hk tq (.tup [.str nm, .str x, .str y, .str kk])) (.ref tq) (Ch.d ⟨nm, x, y, kk⟩) := im_new htq (.cons (.str _) (.cons (.str _) (.cons (.str _) (.cons (.str _) .nil))))
      have tkp := tk_put (o := .lst (acc ++ [.ref tq])) hz ntL
      refine ⟨(bt.trans fun a o e na => bz.bt _ _ e fun q => na (.inl q)).trans (Bt.put (.inr rfl)), ?_, ⟨cs ++ [⟨nm, x, y, kk⟩], _, upd_same, ?_, csnext nm x y kk hnm hx hy hkk, by rw [List.length_append, hcj]; rfl⟩, _, _, rfl⟩
      · obtain ⟨x, y, e, q1, q2⟩ := bz.fd
        exact ⟨x, y, (upd_ne fcl).trans e, q1, q2⟩
      · rw [List.map_append]
        exact ((iacc.mono (bz.tk hfd)).append (ImL.one itq)).mono tkp
  · rintro σ H' ⟨bt, hfd, ⟨cs, acc, hacc, iacc, gk, hcj⟩, o6, o7, rfl⟩
    refine ⟨_, rfl, cl, acc, rfl, .inl ⟨SqL.of hacc, fun r hr => ?_⟩⟩
    have sr : Same H' (upd H' r (.tup acc)) := same_new hr
    refine k1 _ r cs ⟨fun a o e na => ?_, hfd.same sr⟩ (im_new hr iacc) gk
    have na : a ≠ fp := na
    exact sr _ _ (bt _ _ e (by rintro (q | q); exact na q; exact ncl e q))
end
end SwK
set_option maxHeartbeats 8000000
/-! the builder: boxes of a hand -/
namespace SwK
open PySem PySem.Spec PyProof.Rows L2
def spInto : Sp := sp3 fun a b c H Q => ∃ (cs : List Ch) (h : Str) (bs : List (Str × Str)), Im H a (.tup (cs.map Ch.d)) ∧ b = .str h ∧ Im H c (partsD bs) ∧ cs.length ≤ 5 ∧ bs.length ≤ 6 ∧
  ∀ H' q xs (fl : List (Str × Str)), Same H H' → H q = none → H' q = some (.lst xs) → ImL H' xs (fl.map pairD) → fl.length ≤ 100 → (∀ p ∈ fl, ∃ ch ∈ cs, ch.name = p.1 ∧ ch.dst = h ∧ (p.2, ch.kind) ∈ bs) → Q (.ref q) H'
/-- boxes that are right -/
structure BsOk (ns : List Str) (ks : List Kd) (bs : List (Str × Str)) : Prop where
  nd : (bs.map (·.1)).Nodup
  mem : ∀ p ∈ bs, p.1 ∈ ns
  few : bs.length ≤ 5
  know : ∀ p ∈ bs, Knows ks p.2
def spBoxesB : Sp := sp5 fun a b c d e H Q => ∃ (fp : Addr) (ks : List Kd) (cs : List Ch) (h : Str) (np : Addr) (ns : List Str), a = .ref fp ∧ Feed H fp ∧ Im H b (kindsD ks) ∧ ks.length ≤ 4 ∧ Im H c (.tup (cs.map Ch.d)) ∧ cs.length ≤ 5 ∧ (∀ ch ∈ cs, Knows ks ch.kind) ∧ d = .str h ∧ e = .ref np ∧ NmAt H np ns ∧ NsOk ns ∧
  ∀ H' r bs, FB fp H H' → Im H' (.ref r) (partsD bs) → BsOk ns ks bs → Q (.ref r) H'
section
variable {P : Program} {w : World} {K : PySem.W.Frag} {mg : Str → Option Value} {base : Heap}
/- _law_into: slots 0 _law_channels_here 1 _law_h 2 _law_boxes_here 3 _law_found 4 _law_c 5 _law_come 6 _law_to 7 _law_kind 8 _law_x 9 _law_told -/
theorem sc_law_into : FnScope ["_law_channels_here", "_law_h", "_law_boxes_here", "_law_found", "_law_c", "_law_come", "_law_to", "_law_kind", "_law_x", "_law_told"] ["_law_channels_here", "_law_h", "_law_boxes_here"] (defScope s_law_into) := ⟨rfl, rfl, rfl, by decide +kernel, rfl, by decide +kernel, by decide +kernel⟩
theorem ok_law_into (T : Txt K mg) : C8.Cal P w K mg base 1 "_law_into" spInto [] := by
  refine mkCal (f_law_into T) (g_law_into T) sc_law_into (fun _ _ _ _ _ _ us hl => match us, hl with | [_, _, _], _ => rfl) (fun vs H Q E h => ?_) (fun vs H Q E h => ?_)
  · obtain ⟨a, b, c, rfl, _⟩ := sp3_len h
    rfl
  obtain ⟨a, b, c, rfl, h⟩ := sp3_len h
  intro cdv A outer s E hr
  have hu := hu_of hr
  obtain ⟨cs, h0, bs, h1, rfl, h2, hcl, hbl, k1⟩ := h
  obtain ⟨ca, cxs, rfl, ec, ic⟩ := im_tup h1
  obtain ⟨pa, po, pxs, rfl, ep, _, ip⟩ := im_pt h2
  have hcx : cxs.length = cs.length := by rw [ic.length, List.length_map]
  have hpx : pxs.length = bs.length := by rw [ip.length, List.length_map]
  refine ⟨_, (pss_cons (ps_set (i := 3) sc_law_into.nd rfl (by first | exact .inl rfl | exact .inr rfl) (pe_lst pa_nil))
        (pss_cons (ps_for PassesOwn.never rfl (pi_tup (pv 0)) (pg_tup rfl (pgs_cons (pg_name (i := 4) sc_law_into.nd rfl (by first | exact .inl rfl | exact .inr rfl)) (pgs_cons (pg_name (i := 5) sc_law_into.nd rfl (by first | exact .inl rfl | exact .inr rfl)) (pgs_cons (pg_name (i := 6) sc_law_into.nd rfl (by first | exact .inl rfl | exact .inr rfl)) (pgs_cons (pg_name (i := 7) sc_law_into.nd rfl (by first | exact .inl rfl | exact .inr rfl)) pgs_nil))))) (pss_one (ps_set (i := 3) sc_law_into.nd rfl (by first | exact .inl rfl | exact .inr rfl) (pe_op op_cat (pv 3) (pe_lc (own := [("_law_x", 8), ("_law_told", 9)]) rfl sc_law_into.nd (pi_tup (pv 2)) (blkOk_by (N := ["_law_channels_here", "_law_h", "_law_boxes_here", "_law_found", "_law_c", "_law_come", "_law_to", "_law_kind", "_law_x", "_law_told"]) (sc := defScope s_law_into) (by decide +kernel)) (fun _ _ _ _ _ => (pgT (K := K) (n := 2) rfl rfl (pgs_cons (pg_name (i := 8) sc_law_into.nd rfl (by first | exact .inl rfl | exact .inr rfl)) (pgs_cons (pg_name (i := 9) sc_law_into.nd rfl (by first | exact .inl rfl | exact .inr rfl)) pgs_nil)))) (fun _ _ _ _ _ => (pts_one (PW.pt (pw_and (pt_cmpR op_eq (pv 6) (pv 1) (nomark _)) (pw_and1 (pt_cmpR op_eq (pv 9) (pv 7) (nomark _))))))) (fun _ _ _ _ _ => (pe_tup (pa_cons (pv 4) (pa_cons (pv 8) pa_nil)))))))))
        (pss_one (ps_ret (pv 3))))), ?_⟩
  refine ⟨le_size (by show 0 ≤ 100000; decide), fun fl0 hfl0 => ?_⟩
  have s1 : Same H (upd H fl0 (.lst [])) := same_new hfl0
  refine ⟨_, rfl, ca, rfl, ⟨_, SqT.of (s1 _ _ ec)⟩, for_tup (xs := cxs) (fun j σ H' => Same H H' ∧ ∃ (q : Addr) (fl : List (Str × Str)) (acc : List V), H q = none ∧ H' q = some (.lst acc) ∧ ImL H' acc (fl.map pairD) ∧ fl.length ≤ 6 * j ∧ (∀ p ∈ fl, ∃ ch ∈ cs, ch.name = p.1 ∧ ch.dst = h0 ∧ (p.2, ch.kind) ∈ bs) ∧
      ∃ o4 o5 o6 o7 o8 o9, σ = [some (.ref ca), some (.str h0), some (.ref pa), some (.ref q), o4, o5, o6, o7, o8, o9])
    ⟨s1, fl0, [], [], hfl0, upd_same, .nil, Nat.zero_le _, (fun p hp => by cases hp), _, _, _, _, _, _, rfl⟩ (fun j σ H' _ z => SqT.of (z.1 _ _ ec)) ?_ ?_⟩
  · rintro j x σ H' hx ⟨t1, q, fl, acc, hqn, hacc, iacc, hfl, hall, o4, o5, o6, o7, o8, o9, rfl⟩
    obtain ⟨ch, hch, ix⟩ := iml_map ic hx
    have hj : j < cs.length := (List.getElem?_eq_some_iff.mp hch).1
    have hcm := List.mem_of_getElem? hch
    obtain ⟨qa, y1, y2, y3, y4, rfl, eqa, i1, i2, i3, i4⟩ := im4 (ix.mono (Tk.of t1))
    cases im_str i1
    cases im_str i2
    cases im_str i3
    cases im_str i4
    have hacl : acc.length = fl.length := by rw [iacc.length, List.length_map]
    refine ⟨qa, _, rfl, SqT.of eqa, rfl, _, _, rfl, _, _, rfl, _, _, rfl, _, _, rfl, rfl, ?_⟩
    refine ⟨_, rfl, _, rfl, pa, rfl, ⟨_, sqT_frz (t1 _ _ ep)⟩, fun D hD => lc_tup (K := K) (a := pa) (xs := pxs) (fun i H6 => Same H' H6 ∧ ∃ (gs : List (Str × Str)) (ac2 : List V), H6 D = some (.lst ac2) ∧ ImL H6 ac2 (gs.map pairD) ∧ gs.length ≤ i ∧ ∀ p ∈ gs, p.1 = ch.name ∧ ch.dst = h0 ∧ (p.2, ch.kind) ∈ bs) ⟨same_new hD, [], [], upd_same, .nil, Nat.le_refl _, fun p hp => by cases hp⟩ (fun i H6 _ q => sqT_frz (q.1 _ _ (t1 _ _ ep))) (fun i x H6 hx6 z => ?_) (fun H6 z => ?_)⟩
    · obtain ⟨u1, gs, ac2, hac2, iac2, hgs, hgall⟩ := z
      obtain ⟨p2, hp2, ix2⟩ := iml_map ip hx6
      obtain ⟨qb, z1, z2, rfl, eqb, j1, j2⟩ := im2 (ix2.mono (Tk.of (t1.trans u1)))
      cases im_str j1
      cases im_str j2
      have hi : i < bs.length := (List.getElem?_eq_some_iff.mp hp2).1
      refine ⟨qb, _, rfl, SqT.of eqb, rfl, _, _, rfl, _, _, rfl, rfl, rfl, ?_⟩
      refine ⟨_, rfl, _, rfl, rfl, _, rfl, ?_⟩
      by_cases hds : ch.dst = h0
      · refine propT (congrArg V.str hds) ⟨_, rfl, _, rfl, rfl, _, rfl, ?_⟩
        by_cases hpk : p2.2 = ch.kind
        · refine propT (congrArg V.str hpk) ⟨_, rfl, _, rfl, le_size (by show 2 ≤ 100000; decide), fun tq htq => ?_⟩
          have w1 : Same H6 (upd H6 tq (.tup [.str ch.name, .str p2.1])) := same_new htq
          refine ⟨ac2, w1 _ _ hac2, ?_, same_put (u1.trans w1) hD, gs ++ [(ch.name, p2.1)], _, upd_same, ?_, ?_, ?_⟩
          · rw [iac2.length, List.length_map]
            exact lt_size (by omega)
          · rw [List.map_append]
            exact ((iac2.mono (Tk.of w1)).append (ImL.one (im_new htq (.cons (.str _) (.cons (.str _) .nil))))).mono (tk_put (w1 _ _ hac2) ntL)
          · rw [List.length_append]
            exact Nat.succ_le_succ hgs
          · intro p hp
            rcases List.mem_append.mp hp with h | h
            · exact hgall p h
            · have := List.mem_singleton.mp h
              subst this
              refine ⟨rfl, hds, ?_⟩
              have := List.mem_of_getElem? hp2
              rw [← hpk]
              exact this
        · exact propF (fun e => hpk (V.str.inj e)) ⟨u1, gs, ac2, hac2, iac2, by omega, hgall⟩
      · exact propF (fun e => hds (V.str.inj e)) (iteF ⟨u1, gs, ac2, hac2, iac2, by omega, hgall⟩)
    · obtain ⟨u1, gs, ac2, hac2, iac2, hgs, hgall⟩ := z
      have hgl2 : ac2.length = gs.length := by rw [iac2.length, List.length_map]
      refine ⟨q, D, _, _, rfl, rfl, u1 _ _ hacc, hac2, le_size (by omega), fun np hnp => ?_⟩
      have w1 : Same H6 (upd H6 np (.lst (acc ++ ac2))) := same_new hnp
      refine ⟨(t1.trans u1).trans w1, np, fl ++ gs, _, new_old (t1.trans u1) hnp, upd_same, ?_, ?_, ?_, _, _, _, _, _, _, rfl⟩
      · rw [List.map_append]
        exact ((iacc.mono (Tk.of u1)).append iac2).mono (Tk.of w1)
      · rw [List.length_append]
        omega
      · intro p hp
        rcases List.mem_append.mp hp with h | h
        · exact hall p h
        · obtain ⟨e1, e2, e3⟩ := hgall p h
          exact ⟨ch, hcm, e1.symm, e2, e3⟩
  · rintro σ H' ⟨t1, q, fl, acc, hqn, hacc, iacc, hfl, hall, o4, o5, o6, o7, o8, o9, rfl⟩
    exact ⟨_, rfl, k1 _ q acc fl t1 hqn hacc iacc (by omega) hall⟩
end
end SwK
set_option maxHeartbeats 8000000
/-! the builder: boxes of a hand -/
namespace SwK
open PySem PySem.Spec PyProof.Rows L2
section
variable {P : Program} {w : World} {K : PySem.W.Frag} {mg : Str → Option Value} {base : Heap}
/- _law_boxes: slots 0 _law_feed_here 1 _law_kinds_here 2 _law_channels_here 3 _law_h 4 _law_names_here 5 _law_wants 6 _law_c 7 _law_come 8 _law_to 9 _law_kind 10 _law_k 11 _law_turn -/
theorem sc_law_boxes : FnScope ["_law_feed_here", "_law_kinds_here", "_law_channels_here", "_law_h", "_law_names_here", "_law_wants", "_law_c", "_law_come", "_law_to", "_law_kind", "_law_k", "_law_turn"] ["_law_feed_here", "_law_kinds_here", "_law_channels_here", "_law_h", "_law_names_here"] (defScope s_law_boxes) := ⟨rfl, rfl, rfl, by decide +kernel, rfl, by decide +kernel, by decide +kernel⟩
theorem ok_law_boxes (T : Txt K mg) (c_law_take : C8.Cal P w K mg base 1 "_law_take" spTake []) (c_law_any_kind : C8.Cal P w K mg base 2 "_law_any_kind" spAnyK []) : C8.Cal P w K mg base 3 "_law_boxes" spBoxesB [] := by
  refine mkCal (f_law_boxes T) (g_law_boxes T) sc_law_boxes (fun _ _ _ _ _ _ us hl => match us, hl with | [_, _, _, _, _], _ => rfl) (fun vs H Q E h => ?_) (fun vs H Q E h => ?_)
  · obtain ⟨a, b, c, d, e, rfl, _⟩ := sp5_len h
    rfl
  obtain ⟨a, b, c, d, e, rfl, h⟩ := sp5_len h
  intro cdv A outer s E hr
  have hu := hu_of hr
  obtain ⟨fp, ks, cs, h0, np, ns, rfl, hf, hks, hkl, hcs, hcl, hcn, rfl, rfl, hnp, hns, k1⟩ := h
  obtain ⟨ca, cxs, rfl, ec, ic⟩ := im_tup hcs
  have hcx : cxs.length = cs.length := by rw [ic.length, List.length_map]
  have hl26 := hns.len
  refine ⟨_, (pss_cons (ps_set (i := 5) sc_law_boxes.nd rfl (by first | exact .inl rfl | exact .inr rfl) (pe_lst pa_nil))
        (pss_cons (ps_for PassesOwn.never rfl (pi_tup (pv 2)) (pg_tup rfl (pgs_cons (pg_name (i := 6) sc_law_boxes.nd rfl (by first | exact .inl rfl | exact .inr rfl)) (pgs_cons (pg_name (i := 7) sc_law_boxes.nd rfl (by first | exact .inl rfl | exact .inr rfl)) (pgs_cons (pg_name (i := 8) sc_law_boxes.nd rfl (by first | exact .inl rfl | exact .inr rfl)) (pgs_cons (pg_name (i := 9) sc_law_boxes.nd rfl (by first | exact .inl rfl | exact .inr rfl)) pgs_nil))))) (pss_one (ps_if (PW.pt (pw_and (pt_cmpR op_eq (pv 8) (pv 3) (nomark _)) (pw_and1 (pt_cmpR op_notIn_seq (pv 9) (pv 5) (by rfl))))) (pss_one (ps_expr (pe_bm PySem.F.plainAttrs_list PySem.F.slot_list_append PySem.F.type_list_append mt_append (pv 5) (pa_cons (pv 9) pa_nil)))) pss_nil)))
        (pss_cons (ps_for PassesOwn.never rfl (pi_range1 rfl (z_range T) (pa_cons (C8.pe_c c_law_take hr (by omega) rfl (pa_cons (pv 0) (pa_cons pe_int pa_nil))) pa_nil)) (pg_name (i := 10) sc_law_boxes.nd rfl (by first | exact .inl rfl | exact .inr rfl)) (pss_one (ps_expr (pe_bm PySem.F.plainAttrs_list PySem.F.slot_list_append PySem.F.type_list_append mt_append (pv 5) (pa_cons (C8.pe_c c_law_any_kind hr (by omega) rfl (pa_cons (pv 0) (pa_cons (pv 1) pa_nil))) pa_nil)))))
        (pss_cons (ps_set (i := 11) sc_law_boxes.nd rfl (by first | exact .inl rfl | exact .inr rfl) (pe_op op_fdiv (C8.pe_c c_law_take hr (by omega) rfl (pa_cons (pv 0) (pa_cons pe_int pa_nil))) pe_int))
        (pss_one (ps_ret (pe_callTy call_tupleP rfl (z_tuple T) (by decide +kernel) (pa_cons (pe_lc (own := [("_law_k", 10)]) rfl sc_law_boxes.nd (pi_range1 rfl (z_range T) (pa_cons (pe_callB (call_min2 rfl) rfl (z_min T) (by decide +kernel) (pa_cons pe_int (pa_cons (pe_callB call_len rfl (z_len T) PySem.boot_len (pa_cons (pv 5) pa_nil)) pa_nil))) pa_nil)) (blkOk_by (N := ["_law_feed_here", "_law_kinds_here", "_law_channels_here", "_law_h", "_law_names_here", "_law_wants", "_law_c", "_law_come", "_law_to", "_law_kind", "_law_k", "_law_turn"]) (sc := defScope s_law_boxes) (by decide +kernel)) (fun _ _ _ _ _ => (pg_name (i := 10) sc_law_boxes.nd rfl (by first | exact .inl rfl | exact .inr rfl))) (fun _ _ _ _ _ => pts_nil) (fun _ _ _ _ _ => (pe_tup (pa_cons (pe_ix (ixL (K := K) rfl) (pv 4) (pe_op op_add pe_int (pe_op op_mod (pe_op op_add (pv 10) (pv 11)) pe_int)) (fun _ _ => rfl)) (pa_cons (pe_ix (ixL (K := K) rfl) (pv 5) (pv 10) (fun _ _ => rfl)) pa_nil))))) pa_nil)))))))), ?_⟩
  refine ⟨le_size (by show 0 ≤ 100000; decide), fun wl hwl => ?_⟩
  have s1 : Same H (upd H wl (.lst [])) := same_new hwl
  have ewl : upd H wl (.lst []) wl = some (.lst []) := upd_same
  have hf1 := hf.same s1
  have nwl : ∀ {z : Addr} {o : HO}, H z = some o → z ≠ wl := fun h e => by rw [e, hwl] at h; cases h
  have fwl : fp ≠ wl := by
    obtain ⟨x, y, e, _⟩ := hf
    exact nwl e
  have nnf : np ≠ fp := feed_ne hf hnp nm_noint
  have nnw : np ≠ wl := nwl hnp
  have ntk : ∀ {H' : Hp}, Bt (fun a => a = fp ∨ a = wl) H H' → Tk H H' := fun bt => bt.tk fun a o ea e => by
    rcases ea with q | q
    · obtain ⟨x, y, e', _⟩ := hf
      rw [q, e'] at e
      cases e
      exact ntL
    · rw [q, hwl] at e
      cases e
  generalize upd H wl (.lst []) = H1 at s1 ewl hf1 ⊢
  -- one more kind that is wanted
  have more : ∀ (H' : Hp) (ws : List Str) (k : Str) (j : Nat), Bt (fun a => a = fp ∨ a = wl) H H' → Feed H' fp → H' wl = some (.lst (ws.map V.str)) → ws.length ≤ j → (∀ w ∈ ws, Knows ks w) → Knows ks k →
      Bt (fun a => a = fp ∨ a = wl) H (upd H' wl (.lst (ws.map V.str ++ [.str k]))) ∧ Feed (upd H' wl (.lst (ws.map V.str ++ [.str k]))) fp ∧ ∃ ws' : List Str, upd H' wl (.lst (ws.map V.str ++ [.str k])) wl = some (.lst (ws'.map V.str)) ∧ ws'.length ≤ j + 1 ∧ ∀ w ∈ ws', Knows ks w := by
    intro H' ws k j bt hfd e hl hw hk
    refine ⟨bt.trans (Bt.put (.inr rfl)), ?_, ws ++ [k], ?_, ?_, ?_⟩
    · obtain ⟨x, y, e', q1, q2⟩ := hfd
      exact ⟨x, y, (upd_ne fwl).trans e', q1, q2⟩
    · rw [upd_same, List.map_append]
      rfl
    · rw [List.length_append]
      exact Nat.succ_le_succ hl
    · intro w hw'
      rcases List.mem_append.mp hw' with q | q
      · exact hw w q
      · have := List.mem_singleton.mp q
        subst this
        exact hk
  refine ⟨_, rfl, ca, rfl, ⟨_, SqT.of (s1 _ _ ec)⟩, for_tup (xs := cxs) (fun j σ H' => Bt (fun a => a = fp ∨ a = wl) H H' ∧ Feed H' fp ∧ (∃ ws : List Str, H' wl = some (.lst (ws.map V.str)) ∧ ws.length ≤ j ∧ ∀ w ∈ ws, Knows ks w) ∧ ∃ o6 o7 o8 o9 o10 o11, σ = [some (.ref fp), some b, some (.ref ca), some (.str h0), some (.ref np), some (.ref wl), o6, o7, o8, o9, o10, o11])
    ⟨Bt.of s1, hf1, ⟨[], ewl, Nat.le_refl _, fun w hw => by cases hw⟩, _, _, _, _, _, _, rfl⟩ (fun j σ H' _ z => SqT.of (ntk z.1 _ _ ec trivial)) ?_ ?_⟩
  · rintro j x σ H' hx ⟨bt, hfd, ⟨ws, hws, hwl', hwk⟩, o6, o7, o8, o9, o10, o11, rfl⟩
    obtain ⟨ch, hch, ix⟩ := iml_map ic hx
    have hj : j < cs.length := (List.getElem?_eq_some_iff.mp hch).1
    obtain ⟨qa, y1, y2, y3, y4, rfl, eqa, i1, i2, i3, i4⟩ := im4 (ix.mono (ntk bt))
    cases im_str i1
    cases im_str i2
    cases im_str i3
    cases im_str i4
    refine ⟨qa, _, rfl, SqT.of eqa, rfl, _, _, rfl, _, _, rfl, _, _, rfl, _, _, rfl, rfl, ?_⟩
    refine ⟨_, rfl, _, rfl, rfl, _, rfl, ?_⟩
    by_cases hds : ch.dst = h0
    · refine propT (congrArg V.str hds) ⟨_, rfl, _, rfl, wl, _, rfl, .inl (SqL.of hws), rfl, str_all, _, rfl, ?_⟩
      cases hb : inV (.str ch.kind) (ws.map V.str) with
      | true => exact iteF ⟨bt, hfd, ⟨ws, hws, by omega, hwk⟩, _, _, _, _, _, _, rfl⟩
      | false =>
        refine iteT ⟨_, rfl, .inl ⟨rfl, _, SqL.of hws⟩, _, rfl, wl, _, _, rfl, rfl, hws, (by rw [List.length_map]; exact lt_size (by omega)), ?_⟩
        obtain ⟨m1, m2, m3⟩ := more H' ws ch.kind j bt hfd hws hwl' hwk (hcn ch (List.mem_of_getElem? hch))
        exact ⟨m1, m2, m3, _, _, _, _, _, _, rfl⟩
    · exact propF (fun e => hds (V.str.inj e)) (iteF ⟨bt, hfd, ⟨ws, hws, by omega, hwk⟩, _, _, _, _, _, _, rfl⟩)
  rintro σ H2 ⟨bt2, hfd2, ⟨ws2, hws2, hwl2, hwk2⟩, o6, o7, o8, o9, o10, o11, rfl⟩
  refine ⟨_, rfl, fp, 3, rfl, hfd2, rfl, by decide, by decide, fun H3 d3 p3 q3 b3 => ?_⟩
  obtain ⟨n, rfl⟩ : ∃ n : Nat, d3 = (n : Int) := ⟨d3.toNat, by omega⟩
  refine ⟨_, rfl, by omega, by omega, ?_⟩
  rw [Int.toNat_natCast]
  refine for_range (fun j σ H' => Bt (fun a => a = fp ∨ a = wl) H H' ∧ Feed H' fp ∧ (∃ ws : List Str, H' wl = some (.lst (ws.map V.str)) ∧ ws.length ≤ 5 + j ∧ ∀ w ∈ ws, Knows ks w) ∧ ∃ o6 o7 o8 o9 o10 o11, σ = [some (.ref fp), some b, some (.ref ca), some (.str h0), some (.ref np), some (.ref wl), o6, o7, o8, o9, o10, o11])
    ⟨bt2.trans fun a o e na => b3.bt _ _ e fun q => na (.inl q), b3.fd, ⟨ws2, b3.ne hws2 (Ne.symm fwl), by omega, hwk2⟩, _, _, _, _, _, _, rfl⟩ ?_ ?_
  · rintro j σ H' hj ⟨bt, hfd, ⟨ws, hws, hwl', hwk⟩, o6, o7, o8, o9, o10, o11, rfl⟩
    refine ⟨_, rfl, .inl ⟨rfl, _, SqL.of hws⟩, _, rfl, _, rfl, fp, ks, rfl, hfd, hks.mono (ntk bt), hkl, fun H5 k b5 hk => ?_⟩
    have hw5 := b5.ne hws (Ne.symm fwl)
    refine ⟨wl, _, _, rfl, rfl, hw5, (by rw [List.length_map]; exact lt_size (by omega)), ?_⟩
    obtain ⟨m1, m2, m3⟩ := more H5 ws k (5 + j) (bt.trans fun a o e na => b5.bt _ _ e fun q => na (.inl q)) b5.fd hw5 hwl' hwk hk
    exact ⟨m1, m2, m3, _, _, _, _, _, _, rfl⟩
  · rintro σ H4 ⟨bt4, hfd4, ⟨ws, hws, hwl4, hwk⟩, o6, o7, o8, o9, o10, o11, rfl⟩
    refine ⟨_, rfl, fp, 4, rfl, hfd4, rfl, by decide, by decide, fun H5 d5 p5 q5 b5 => ⟨_, _, rfl, rfl, ⟨by decide, by decide⟩, ?_⟩⟩
    have ht0 : 0 ≤ d5 / 2 := Int.ediv_nonneg p5 (by decide)
    have ht1 : d5 / 2 ≤ 1 := by omega
    have bt5 : Bt (fun a => a = fp ∨ a = wl) H H5 := bt4.trans fun a o e na => b5.bt _ _ e fun q => na (.inl q)
    have hw5 := b5.ne hws (Ne.symm fwl)
    have hn5 : NmAt H5 np ns := bt5 _ _ hnp (by rintro (q | q); exact nnf q; exact nnw q)
    refine ⟨_, rfl, _, _, rfl, .inl ⟨_, SqL.of hw5, rfl⟩, _, _, rfl, _, rfl, ?_⟩
    rw [List.length_map]
    obtain ⟨c, hc5, hcw, hcE⟩ : ∃ c : Nat, c ≤ 5 ∧ c ≤ ws.length ∧ (if ((ws.length : Nat) : Int) < 5 then ((ws.length : Nat) : Int) else 5) = (c : Int) := by
      by_cases q : ((ws.length : Nat) : Int) < 5
      · exact ⟨ws.length, by omega, Nat.le_refl _, if_pos q⟩
      · exact ⟨5, Nat.le_refl _, by omega, if_neg q⟩
    rw [hcE]
    obtain ⟨tn, htn, htn1⟩ : ∃ tn : Nat, d5 / 2 = (tn : Int) ∧ tn ≤ 1 := ⟨(d5 / 2).toNat, by omega, by omega⟩
    refine ⟨by omega, by omega, fun D hD => ?_⟩
    have hnx : ∀ {H' : Hp}, Same H5 H' → NmAt H' np ns := fun s => s _ _ hn5
    refine lc_range (n := c) (fun i H' => Same H5 H' ∧ ∃ (bs : List (Str × Str)) (acc : List V), H' D = some (.lst acc) ∧ ImL H' acc (bs.map pairD) ∧ bs.length = i ∧ (bs.map (·.1)).Nodup ∧ ∀ p ∈ bs, (∃ j : Nat, j < i ∧ ns[18 + (j + tn) % 6]? = some p.1) ∧ Knows ks p.2) ⟨same_new hD, [], [], upd_same, .nil, rfl, List.nodup_nil, fun p hp => by cases hp⟩ (fun i H' hi q => ?_) (fun H' q => ?_)
    · obtain ⟨t1, bs, acc, hacc, iacc, hbl, hbn, hall⟩ := q
      have hlt : 18 + (i + tn) % 6 < ns.length := by omega
      obtain ⟨nm, hnm⟩ : ∃ nm, ns[18 + (i + tn) % 6]? = some nm := ⟨_, List.getElem?_eq_getElem hlt⟩
      obtain ⟨kw, hkw⟩ : ∃ kw, ws[i]? = some kw := ⟨_, List.getElem?_eq_getElem (show i < ws.length by omega)⟩
      have hnmV : atI (ns.map V.str) ((18 + (i + tn) % 6 : Nat) : Int) = some (V.str nm) := atI_nat (by rw [List.getElem?_map, hnm]; rfl)
      have hkwV : atI (ws.map V.str) (i : Int) = some (V.str kw) := atI_nat (by rw [List.getElem?_map, hkw]; rfl)
      have hidx : (18 : Int) + (((0 : Int) + (i : Int)) + d5 / 2) % 6 = ((18 + (i + tn) % 6 : Nat) : Int) := by
        rw [htn]
        omega
      refine ⟨rfl, lcY (iteT ?_)⟩
      refine ⟨_, rfl, _, rfl, _, rfl, _, _, rfl, rfl, _, _, rfl, rfl, (by decide : (0 : Int) < 6), _, _, rfl, rfl, np, _, _, _, rfl, rfl, SqL.of (hnx t1), (by show atI (ns.map V.str) ((18 : Int) + (((0 : Int) + (i : Int)) + d5 / 2) % 6) = _; rw [hidx]; exact hnmV), _, rfl, _, rfl, wl, _, _, _, rfl, rfl, SqL.of (t1 _ _ hw5), (by rw [Int.zero_add]; exact hkwV), le_size (by show 2 ≤ 100000; decide), fun tq htq => ?_⟩
      have w1 : Same H' (upd H' tq (.tup [.str nm, .str kw])) := same_new htq
      refine ⟨acc, w1 _ _ hacc, (by rw [iacc.length, List.length_map]; exact lt_size (by omega)), same_put (t1.trans w1) hD, bs ++ [(nm, kw)], _, upd_same, ?_, by rw [List.length_append, hbl]; rfl, ?_, fun p hp => ?_⟩
      · rw [List.map_append]
        exact ((iacc.mono (Tk.of w1)).append (ImL.one (im_new htq (.cons (.str _) (.cons (.str _) .nil))))).mono (tk_put (w1 _ _ hacc) ntL)
      · rw [List.map_append]
        refine nd_snoc hbn fun hm => ?_
        obtain ⟨p, hp, ep⟩ := List.mem_map.mp hm
        obtain ⟨⟨j, hj, ej⟩, _⟩ := hall p hp
        have ep : p.1 = nm := ep
        rw [ep] at ej
        have := nd_ix hns.nd ej hnm
        omega
      · rcases List.mem_append.mp hp with q | q
        · obtain ⟨⟨j, hj, ej⟩, hk⟩ := hall p q
          exact ⟨⟨j, by omega, ej⟩, hk⟩
        · have := List.mem_singleton.mp q
          subst this
          exact ⟨⟨i, by omega, hnm⟩, hwk kw (List.mem_of_getElem? hkw)⟩
    · obtain ⟨t1, bs, acc, hacc, iacc, hbl, hbn, hall⟩ := q
      refine ⟨D, acc, rfl, SqL.of hacc, fun l o hl ho => ?_⟩
      have sl : Same H' (upd H' l (.frz o (.tup acc))) := same_new hl
      refine k1 _ l bs ⟨fun a o' e na => ?_, b5.fd.same (t1.trans sl)⟩ (im_newP hl ho iacc) ⟨hbn, fun p hp => ?_, by omega, fun p hp => (hall p hp).2⟩
      · have na : a ≠ fp := na
        exact (t1.trans sl) _ _ (bt5 _ _ e (by rintro (q | q); exact na q; exact nwl e q))
      · obtain ⟨⟨j, hj, ej⟩, _⟩ := hall p hp
        exact List.mem_of_getElem? ej
end
end SwK
set_option maxHeartbeats 16000000
/-! the builder: a row dealt -/
namespace SwK
open PySem PySem.Spec PyProof.Rows L2
/-- a row that is right: kinds, channels, boxes, the hand, the number of rows -/
def RwB (ks : List Kd) (cs : List Ch) (bs : List (Str × Str)) (h : Str) (len : Nat) : Rw → Prop
  | .set x e => ∃ k, lkE bs x = some k ∧ Tm ks 8 bs k e
  | .send c e => ∃ ch ∈ cs, ch.name = c ∧ ch.src = h ∧ Tm ks 8 bs ch.kind e
  | .take _ c x => ∃ ch ∈ cs, ch.name = c ∧ ch.dst = h ∧ lkE bs x = some ch.kind
  | .tell e => Tm ks 8 bs "num" e
  | .go k => k < len
  | .ite e k => Tm ks 8 bs "num" e ∧ k < len
  | .fin => True
/-- what the rows of a hand are dealt from -/
structure DealOk (ns : List Str) (ks : List Kd) (cs : List Ch) (bs : List (Str × Str)) : Prop where
  nsok : NsOk ns
  ksok : KsOk ks
  lev : ∀ k, Knows ks k → LvK ks 4 k
  csf : cs.length ≤ 5
  ck : ∀ c ∈ cs, Knows ks c.kind
  bsok : BsOk ns ks bs
theorem DealOk.gam {ns : List Str} {ks : List Kd} {cs : List Ch} {bs : List (Str × Str)} (h : DealOk ns ks cs bs) : GamOk ks bs 2 :=
  ⟨h.bsok.nd, fun p hp => h.lev _ (h.bsok.know p hp), by have := h.bsok.few; omega, fun j hj hm => by
    obtain ⟨p, hp, e⟩ := List.mem_map.mp hm
    have := h.bsok.mem p hp
    rw [e] at this
    exact h.nsok.by' (97 + j) (by omega) (by omega) this⟩
def spDeal : Sp := sp6 fun a b c d e g H Q => ∃ (fp : Addr) (ns : List Str) (ks : List Kd) (cs : List Ch) (h : Str) (bs : List (Str × Str)) (mp : Addr) (ms : List Str), a = .ref fp ∧ Feed H fp ∧ Im H b (kindsD ks) ∧ Im H c (.tup (cs.map Ch.d)) ∧ d = .str h ∧ Im H e (partsD bs) ∧ DealOk ns ks cs bs ∧ g = .ref mp ∧ NmAt H mp ms ∧ ms.length ≤ 6 ∧
  ∀ H' r row ms', Bt (fun a => a = fp ∨ a = mp) H H' → Feed H' fp → NmAt H' mp ms' → ms'.length ≤ ms.length → (ms'.length = ms.length ∨ ∃ l c x, row = Rw.take l c x) → Im H' (.ref r) row.d → (∀ len, RwB ks cs bs h len row) → Q (.ref r) H'
theorem map_eraseIdx {α β : Type} (f : α → β) : ∀ (l : List α) (k : Nat), (l.eraseIdx k).map f = (l.map f).eraseIdx k
  | [], _ => rfl
  | _ :: _, 0 => rfl
  | a :: l, k + 1 => congrArg (f a :: ·) (map_eraseIdx f l k)
section
variable {P : Program} {w : World} {K : PySem.W.Frag} {mg : Str → Option Value} {base : Heap}
/- _law_deal: slots 0 _law_feed_here 1 _law_kinds_here 2 _law_channels_here 3 _law_h 4 _law_boxes_here 5 _law_marks 6 _law_form 7 _law_into_here 8 _law_out 9 _law_c 10 _law_x 11 _law_kind 12 _law_come 13 _law_to -/
theorem sc_law_deal : FnScope ["_law_feed_here", "_law_kinds_here", "_law_channels_here", "_law_h", "_law_boxes_here", "_law_marks", "_law_form", "_law_into_here", "_law_out", "_law_c", "_law_x", "_law_kind", "_law_come", "_law_to"] ["_law_feed_here", "_law_kinds_here", "_law_channels_here", "_law_h", "_law_boxes_here", "_law_marks"] (defScope s_law_deal) := ⟨rfl, rfl, rfl, by decide +kernel, rfl, by decide +kernel, by decide +kernel⟩
theorem ok_law_deal (T : Txt K mg) (c_law_take : C8.Cal P w K mg base 1 "_law_take" spTake []) (c_law_into : C8.Cal P w K mg base 1 "_law_into" spInto []) (c_law_new_term : C8.Cal P w K mg base 41 "_law_new_term" spNewT []) : C8.Cal P w K mg base 42 "_law_deal" spDeal [] := by
  refine mkCal (f_law_deal T) (g_law_deal T) sc_law_deal (fun _ _ _ _ _ _ us hl => match us, hl with | [_, _, _, _, _, _], _ => rfl) (fun vs H Q E h => ?_) (fun vs H Q E h => ?_)
  · obtain ⟨a, b, c, d, e, g, rfl, _⟩ := sp6_len h
    rfl
  obtain ⟨a, b, c, d, e, g, rfl, h⟩ := sp6_len h
  intro cdv A outer s E hr
  have hu := hu_of hr
  obtain ⟨fp, ns, ks, cs, h0, bs, mp, ms, rfl, hf, hks, hcs, rfl, hbs, ok, rfl, hmp, hml, k1⟩ := h
  obtain ⟨ca, cxs, rfl, ec, ic⟩ := im_tup hcs
  obtain ⟨pa, po, pxs, rfl, ep, _, ip⟩ := im_pt hbs
  have hcx : cxs.length = cs.length := by rw [ic.length, List.length_map]
  have hpx : pxs.length = bs.length := by rw [ip.length, List.length_map]
  have hb5 := ok.bsok.few
  have hc5 := ok.csf
  have nmf : mp ≠ fp := feed_ne hf hmp nm_noint
  refine ⟨_, (pss_cons (ps_set (i := 6) sc_law_deal.nd rfl (by first | exact .inl rfl | exact .inr rfl) (C8.pe_c c_law_take hr (by omega) rfl (pa_cons (pv 0) (pa_cons pe_int pa_nil))))
        (pss_cons (ps_set (i := 7) sc_law_deal.nd rfl (by first | exact .inl rfl | exact .inr rfl) (C8.pe_c c_law_into hr (by omega) rfl (pa_cons (pv 2) (pa_cons (pv 3) (pa_cons (pv 4) pa_nil)))))
        (pss_cons (ps_setLc (i := 8) (own := [("_law_c", 9), ("_law_come", 12), ("_law_to", 13), ("_law_kind", 11)]) rfl sc_law_deal.nd rfl rfl (sw_true rfl rfl rfl (by decide +kernel)) (pi_tup (pv 2)) (blkOk_by (N := ["_law_feed_here", "_law_kinds_here", "_law_channels_here", "_law_h", "_law_boxes_here", "_law_marks", "_law_form", "_law_into_here", "_law_out", "_law_c", "_law_x", "_law_kind", "_law_come", "_law_to"]) (sc := defScope s_law_deal) (by decide +kernel)) (fun _ _ _ _ _ => (pgT (K := K) (n := 4) rfl rfl (pgs_cons (pg_name (i := 9) sc_law_deal.nd rfl (by first | exact .inl rfl | exact .inr rfl)) (pgs_cons (pg_name (i := 12) sc_law_deal.nd rfl (by first | exact .inl rfl | exact .inr rfl)) (pgs_cons (pg_name (i := 13) sc_law_deal.nd rfl (by first | exact .inl rfl | exact .inr rfl)) (pgs_cons (pg_name (i := 11) sc_law_deal.nd rfl (by first | exact .inl rfl | exact .inr rfl)) pgs_nil)))))) (fun _ _ _ _ _ => (pts_one (pt_cmpR op_eq (pv 12) (pv 3) (nomark _)))) (fun _ _ _ _ _ => (pe_tup (pa_cons (pv 9) (pa_cons (pv 11) pa_nil)))))
        (pss_cons (ps_if (PW.pt (pw_and (pt_cmpR op_lt (pv 6) pe_int (nomark _)) (pw_and (pt_cmpR op_gt (pe_callB call_len rfl (z_len T) PySem.boot_len (pa_cons (pv 7) pa_nil)) pe_int (nomark _)) (pw_and1 (pt_cmpR op_gt (pe_callB call_len rfl (z_len T) PySem.boot_len (pa_cons (pv 5) pa_nil)) pe_int (nomark _)))))) (pss_cons (ps_asg (pe_ix ix_list (pv 7) (C8.pe_c c_law_take hr (by omega) rfl (pa_cons (pv 0) (pa_cons (pe_callB call_len rfl (z_len T) PySem.boot_len (pa_cons (pv 7) pa_nil)) pa_nil))) (fun _ _ => rfl)) (pg_tup rfl (pgs_cons (pg_name (i := 9) sc_law_deal.nd rfl (by first | exact .inl rfl | exact .inr rfl)) (pgs_cons (pg_name (i := 10) sc_law_deal.nd rfl (by first | exact .inl rfl | exact .inr rfl)) pgs_nil))))
        (pss_one (ps_ret (pe_tup (pa_cons pe_str (pa_cons (pe_bm PySem.F.plainAttrs_list PySem.F.slot_list_pop PySem.F.type_list_pop mt_popAt (pv 5) (pa_cons (C8.pe_c c_law_take hr (by omega) rfl (pa_cons (pv 0) (pa_cons (pe_callB call_len rfl (z_len T) PySem.boot_len (pa_cons (pv 5) pa_nil)) pa_nil))) pa_nil)) (pa_cons (pv 9) (pa_cons (pv 10) pa_nil)))))))) pss_nil)
        (pss_cons (ps_if (PW.pt (pw_and (pt_cmpR op_lt (pv 6) pe_int (nomark _)) (pw_and1 (pt_cmpR op_gt (pe_callB call_len rfl (z_len T) PySem.boot_len (pa_cons (pv 8) pa_nil)) pe_int (nomark _))))) (pss_cons (ps_asg (pe_ix ix_list (pv 8) (C8.pe_c c_law_take hr (by omega) rfl (pa_cons (pv 0) (pa_cons (pe_callB call_len rfl (z_len T) PySem.boot_len (pa_cons (pv 8) pa_nil)) pa_nil))) (fun _ _ => rfl)) (pg_tup rfl (pgs_cons (pg_name (i := 9) sc_law_deal.nd rfl (by first | exact .inl rfl | exact .inr rfl)) (pgs_cons (pg_name (i := 11) sc_law_deal.nd rfl (by first | exact .inl rfl | exact .inr rfl)) pgs_nil))))
        (pss_one (ps_ret (pe_tup (pa_cons pe_str (pa_cons (pv 9) (pa_cons (C8.pe_c c_law_new_term hr (by omega) rfl (pa_cons (pv 0) (pa_cons (pv 1) (pa_cons (pe_callTy call_list_of rfl (z_list T) (by decide +kernel) (pa_cons (pv 4) pa_nil)) (pa_cons (pv 11) pa_nil))))) pa_nil))))))) pss_nil)
        (pss_cons (ps_if (PW.pt (pw_and (pt_cmpR op_lt (pv 6) pe_int (nomark _)) (pw_and1 (pt_cmpR op_gt (pe_callB call_len rfl (z_len T) PySem.boot_len (pa_cons (pv 4) pa_nil)) pe_int (nomark _))))) (pss_cons (ps_asg (pe_ix ix_tup (pv 4) (C8.pe_c c_law_take hr (by omega) rfl (pa_cons (pv 0) (pa_cons (pe_callB call_len rfl (z_len T) PySem.boot_len (pa_cons (pv 4) pa_nil)) pa_nil))) (fun _ _ => rfl)) (pg_tup rfl (pgs_cons (pg_name (i := 10) sc_law_deal.nd rfl (by first | exact .inl rfl | exact .inr rfl)) (pgs_cons (pg_name (i := 11) sc_law_deal.nd rfl (by first | exact .inl rfl | exact .inr rfl)) pgs_nil))))
        (pss_one (ps_ret (pe_tup (pa_cons pe_str (pa_cons (pv 10) (pa_cons (C8.pe_c c_law_new_term hr (by omega) rfl (pa_cons (pv 0) (pa_cons (pv 1) (pa_cons (pe_callTy call_list_of rfl (z_list T) (by decide +kernel) (pa_cons (pv 4) pa_nil)) (pa_cons (pv 11) pa_nil))))) pa_nil))))))) pss_nil)
        (pss_one (ps_ret (pe_tup (pa_cons pe_str (pa_cons (C8.pe_c c_law_new_term hr (by omega) rfl (pa_cons (pv 0) (pa_cons (pv 1) (pa_cons (pe_callTy call_list_of rfl (z_list T) (by decide +kernel) (pa_cons (pv 4) pa_nil)) (pa_cons pe_str pa_nil))))) pa_nil))))))))))), ?_⟩
  refine ⟨_, rfl, fp, 8, rfl, hf, rfl, by decide, by decide, fun H1 d p1 q1 b1 => ?_⟩
  have tk1 := b1.tk hf
  refine ⟨_, rfl, _, rfl, _, rfl, cs, h0, bs, hcs.mono tk1, rfl, hbs.mono tk1, hc5, by omega, fun H2 iq ixs il s2 hiq eiq iil hil hiall => ?_⟩
  have b12 := b1.andS s2
  have ec2 := (b12.tk hf) _ _ ec trivial
  refine ⟨_, rfl, ca, rfl, ⟨_, SqT.of ec2⟩, fun D hD => lc_tup (K := K) (a := ca) (xs := cxs) (fun i H' => Same H2 H' ∧ ∃ (ol : List (Str × Str)) (acc : List V), H' D = some (.lst acc) ∧ ImL H' acc (ol.map pairD) ∧ ol.length ≤ i ∧ ∀ p ∈ ol, ∃ ch ∈ cs, ch.name = p.1 ∧ ch.src = h0 ∧ ch.kind = p.2) ⟨same_new hD, [], [], upd_same, .nil, Nat.le_refl _, fun p hp => by cases hp⟩ (fun i H' _ q => SqT.of (q.1 _ _ ec2)) (fun i x H' hx q => ?_) (fun H3 q => ?_)⟩
  · obtain ⟨t1, ol, acc, hacc, iacc, hol, hall⟩ := q
    obtain ⟨ch, hch, ix⟩ := iml_map ic hx
    have hi : i < cs.length := (List.getElem?_eq_some_iff.mp hch).1
    obtain ⟨qa, y1, y2, y3, y4, rfl, eqa, i1, i2, i3, i4⟩ := im4 ((ix.mono (b12.tk hf)).mono (Tk.of t1))
    cases im_str i1
    cases im_str i2
    cases im_str i3
    cases im_str i4
    refine ⟨qa, _, rfl, SqT.of eqa, rfl, _, _, rfl, _, _, rfl, _, _, rfl, _, _, rfl, rfl, by kernel_rfl, ?_⟩
    refine ⟨_, rfl, _, rfl, rfl, _, rfl, ?_⟩
    by_cases hs : ch.src = h0
    · refine propT (congrArg V.str hs) ⟨_, rfl, _, rfl, le_size (by show 2 ≤ 100000; decide), fun tq htq => ?_⟩
      have w1 : Same H' (upd H' tq (.tup [.str ch.name, .str ch.kind])) := same_new htq
      refine ⟨acc, w1 _ _ hacc, (by rw [iacc.length, List.length_map]; exact lt_size (by omega)), same_put (t1.trans w1) hD, ol ++ [(ch.name, ch.kind)], _, upd_same, ?_, ?_, fun p hp => ?_⟩
      · rw [List.map_append]
        exact ((iacc.mono (Tk.of w1)).append (ImL.one (im_new htq (.cons (.str _) (.cons (.str _) .nil))))).mono (tk_put (w1 _ _ hacc) ntL)
      · rw [List.length_append]
        exact Nat.succ_le_succ hol
      · rcases List.mem_append.mp hp with q | q
        · exact hall p q
        · have := List.mem_singleton.mp q
          subst this
          exact ⟨ch, List.mem_of_getElem? hch, rfl, hs, rfl⟩
    · exact propF (fun e => hs (V.str.inj e)) ⟨t1, ol, acc, hacc, iacc, by omega, hall⟩
  obtain ⟨t3, ol, oacc, hoacc, ioacc, hol, hoall⟩ := q
  have b13 := b12.andS t3
  have hf3 := b13.fd
  have tk3 := b13.tk hf
  have hks3 := hks.mono tk3
  have hbs3 := hbs.mono tk3
  have ep3 := tk3 _ _ ep trivial
  have ip3 := ip.mono tk3
  have eiq3 := t3 _ _ eiq
  have iil3 := iil.mono (Tk.of t3)
  have hmp3 : NmAt H3 mp ms := hmp.fb hf b13
  have hixl : ixs.length = il.length := by rw [iil.length, List.length_map]
  have hoal : oacc.length = ol.length := by rw [ioacc.length, List.length_map]
  have niq := feed_ne hf3 eiq3 (iml_noint iil3 pairs_noint)
  have nD := feed_ne hf3 hoacc (iml_noint ioacc pairs_noint)
  have hgam := ok.gam
  have fin : ∀ H' q row, FB fp H H' → Im H' (.ref q) (Rw.d row) → (∀ len, RwB ks cs bs h0 len row) → Q (.ref q) H' := fun H' q row fb i r => k1 H' q row ms (fun a o e na => fb.bt _ _ e fun z => na (.inl z)) fb.fd (hmp.fb hf fb) (Nat.le_refl _) (.inl rfl) i r
  clear hoal
  have hoal : oacc.length = ol.length := by rw [ioacc.length, List.length_map]
  refine ⟨_, rfl, _, _, rfl, rfl, _, rfl, ?_⟩
  refine viaA ?r1 fun hrest => if g1 : d < 3 then propT g1 ⟨_, rfl, _, _, rfl, .inl ⟨_, SqL.of eiq3, rfl⟩, _, _, rfl, rfl, _, rfl, if g2 : (0 : Int) < ((ixs.length : Nat) : Int) then propT g2 ⟨_, rfl, _, _, rfl, .inl ⟨_, SqL.of hmp3, rfl⟩, _, _, rfl, rfl, _, rfl, if g3 : (0 : Int) < (((ms.map V.str).length : Nat) : Int) then propT g3 ?b1 else propF g3 hrest⟩ else propF g2 (iteF hrest)⟩ else propF g1 (iteF hrest)
  case b1 =>
    rw [List.length_map] at g3
    refine ⟨_, rfl, _, rfl, _, rfl, _, _, rfl, .inl ⟨_, SqL.of eiq3, rfl⟩, fp, _, rfl, hf3, rfl, by omega, by omega, fun H4 d4 p4 q4 b4 => ?_⟩
    obtain ⟨pp, v, hpm, hv, iv⟩ := iml_at iil3 p4 (by omega)
    obtain ⟨va, z1, z2, rfl, ev, i1, i2⟩ := im2 (iv.mono (b4.tk hf3))
    cases im_str i1
    cases im_str i2
    have b14 := b13.trans b4
    refine ⟨iq, _, _, _, rfl, rfl, SqL.of (b4.ne eiq3 niq), hv, va, _, rfl, SqT.of ev, rfl, _, _, rfl, _, _, rfl, rfl, ?_⟩
    have hmp4 : NmAt H4 mp ms := hmp.fb hf b14
    refine ⟨_, rfl, .inl ⟨rfl, _, SqL.of hmp4⟩, _, rfl, _, rfl, _, _, rfl, .inl ⟨_, SqL.of hmp4, rfl⟩, fp, _, rfl, b4.fd, rfl, (by rw [List.length_map]; omega), (by rw [List.length_map]; omega), fun H5 d5 p5 q5 b5 => ?_⟩
    rw [List.length_map] at q5
    have b15 := b14.trans b5
    have hmp5 : H5 mp = some (.lst (ms.map V.str)) := hmp.fb hf b15
    have hi : d5.toNat < ms.length := by omega
    refine ⟨mp, _, d5, d5.toNat, V.str ms[d5.toNat], rfl, rfl, hmp5, (by omega), (by omega), ?_, (by rw [List.getElem?_map, List.getElem?_eq_getElem hi]; rfl), _, rfl, _, rfl, le_size (by show 4 ≤ 100000; decide), fun q hq => ?_⟩
    · rw [List.length_map]
      exact seqIndex_of p5 (by omega)
    have emp : upd H5 mp (.lst ((ms.map V.str).eraseIdx d5.toNat)) mp = some (.lst ((ms.eraseIdx d5.toNat).map V.str)) := by
      rw [upd_same, ← map_eraseIdx]
    have hf5 := b15.fd
    have nq : ∀ {z : Addr} {o : HO}, upd H5 mp (.lst ((ms.map V.str).eraseIdx d5.toNat)) z = some o → z ≠ q := fun h e => by rw [e, hq] at h; cases h
    obtain ⟨ch, hch, hc1, hc2, hc3⟩ := hiall pp hpm
    refine k1 _ q (.take ms[d5.toNat] pp.1 pp.2) (ms.eraseIdx d5.toNat) ?_ ?_ ?_ ?_ (.inr ⟨_, _, _, rfl⟩) (im_new hq (.cons (.str _) (.cons (.str _) (.cons (.str _) (.cons (.str _) .nil))))) fun len => ?_
    · intro a o e na
      have e5 := b15.bt _ _ e fun z => na (.inl z)
      have e6 : upd H5 mp (.lst ((ms.map V.str).eraseIdx d5.toNat)) a = some o := (upd_ne fun z => na (.inr z)).trans e5
      exact (same_new hq) _ _ e6
    · obtain ⟨x, y, e, r1, r2⟩ := hf5
      exact ⟨x, y, (same_new hq) _ _ ((upd_ne (Ne.symm nmf)).trans e), r1, r2⟩
    · exact (same_new hq) _ _ emp
    · rw [List.length_eraseIdx_of_lt hi]
      omega
    · exact ⟨ch, hch, hc1, hc2, lkE_of_mem ok.bsok.nd hc3⟩
  case r1 =>
  refine ⟨_, rfl, _, _, rfl, rfl, _, rfl, ?_⟩
  refine viaA ?r2 fun hrest => if g1 : d < 5 then propT g1 ⟨_, rfl, _, _, rfl, .inl ⟨_, SqL.of hoacc, rfl⟩, _, _, rfl, rfl, _, rfl, if g2 : (0 : Int) < ((oacc.length : Nat) : Int) then propT g2 ?b2 else propF g2 hrest⟩ else propF g1 (iteF hrest)
  case b2 =>
    refine ⟨_, rfl, _, rfl, _, rfl, _, _, rfl, .inl ⟨_, SqL.of hoacc, rfl⟩, fp, _, rfl, hf3, rfl, by omega, by omega, fun H4 d4 p4 q4 b4 => ?_⟩
    obtain ⟨pp, v, hpm, hv, iv⟩ := iml_at ioacc p4 (by omega)
    obtain ⟨va, z1, z2, rfl, ev, i1, i2⟩ := im2 (iv.mono (b4.tk hf3))
    cases im_str i1
    cases im_str i2
    have b14 := b13.trans b4
    have tk4 := b4.tk hf3
    obtain ⟨ch, hch, hc1, hc2, hc3⟩ := hoall pp hpm
    refine ⟨D, _, _, _, rfl, rfl, SqL.of (b4.ne hoacc nD), hv, va, _, rfl, SqT.of ev, rfl, _, _, rfl, _, _, rfl, rfl, ?_⟩
    refine ⟨_, rfl, _, rfl, _, rfl, _, rfl, pa, pxs, rfl, .inr (sqT_frz (tk4 _ _ ep3 trivial)), fun l hl => ?_⟩
    have sl := same_new (o := .lst pxs) hl
    refine ⟨_, rfl, fp, ks, l, bs, pp.2, rfl, b4.fd.same sl, (hks3.mono tk4).mono (Tk.of sl), ok.ksok, rfl, ⟨pxs, upd_same, (ip3.mono tk4).mono (Tk.of sl)⟩, hgam, rfl, hc3 ▸ ok.lev _ (ok.ck ch hch), fun H5 r t b5 it tm => ⟨le_size (by show 3 ≤ 100000; decide), fun q hq => ?_⟩⟩
    exact fin _ q (.send pp.1 t) (((b14.andS sl).trans b5).andS (same_new hq)) (im_new hq (.cons (.str _) (.cons (.str _) (.cons it .nil)))) fun len => ⟨ch, hch, hc1, hc2, hc3.symm ▸ tm⟩
  case r2 =>
  refine ⟨_, rfl, _, _, rfl, rfl, _, rfl, ?_⟩
  refine viaA ?r3 fun hrest => if g1 : d < 7 then propT g1 ⟨_, rfl, _, _, rfl, .inr ⟨_, sqT_frz ep3, rfl⟩, _, _, rfl, rfl, _, rfl, if g2 : (0 : Int) < ((pxs.length : Nat) : Int) then propT g2 ?b3 else propF g2 hrest⟩ else propF g1 (iteF hrest)
  case b3 =>
    refine ⟨_, rfl, _, rfl, _, rfl, _, _, rfl, .inr ⟨_, sqT_frz ep3, rfl⟩, fp, _, rfl, hf3, rfl, by omega, by omega, fun H4 d4 p4 q4 b4 => ?_⟩
    obtain ⟨pp, v, hpm, hv, iv⟩ := iml_at ip3 p4 (by omega)
    obtain ⟨va, z1, z2, rfl, ev, i1, i2⟩ := im2 (iv.mono (b4.tk hf3))
    cases im_str i1
    cases im_str i2
    have b14 := b13.trans b4
    have tk4 := b4.tk hf3
    refine ⟨pa, _, _, _, rfl, rfl, sqT_frz (tk4 _ _ ep3 trivial), hv, va, _, rfl, SqT.of ev, rfl, _, _, rfl, _, _, rfl, rfl, ?_⟩
    refine ⟨_, rfl, _, rfl, _, rfl, _, rfl, pa, pxs, rfl, .inr (sqT_frz (tk4 _ _ ep3 trivial)), fun l hl => ?_⟩
    have sl := same_new (o := .lst pxs) hl
    refine ⟨_, rfl, fp, ks, l, bs, pp.2, rfl, b4.fd.same sl, (hks3.mono tk4).mono (Tk.of sl), ok.ksok, rfl, ⟨pxs, upd_same, (ip3.mono tk4).mono (Tk.of sl)⟩, hgam, rfl, ok.lev _ (ok.bsok.know pp hpm), fun H5 r t b5 it tm => ⟨le_size (by show 3 ≤ 100000; decide), fun q hq => ?_⟩⟩
    exact fin _ q (.set pp.1 t) (((b14.andS sl).trans b5).andS (same_new hq)) (im_new hq (.cons (.str _) (.cons (.str _) (.cons it .nil)))) fun len => ⟨pp.2, lkE_of_mem ok.bsok.nd hpm, tm⟩
  case r3 =>
  refine ⟨_, rfl, _, rfl, _, rfl, pa, pxs, rfl, .inr (sqT_frz ep3), fun l hl => ?_⟩
  have sl := same_new (o := .lst pxs) hl
  refine ⟨fp, ks, l, bs, "num", rfl, hf3.same sl, hks3.mono (Tk.of sl), ok.ksok, rfl, ⟨pxs, upd_same, ip3.mono (Tk.of sl)⟩, hgam, rfl, LvK.num 4, fun H5 r t b5 it tm => ⟨le_size (by show 2 ≤ 100000; decide), fun q hq => ?_⟩⟩
  exact fin _ q (.tell t) (((b13.andS sl).trans b5).andS (same_new hq)) (im_new hq (.cons (.str _) (.cons it .nil))) fun len => tm
end
end SwK
set_option maxHeartbeats 16000000
/-! the builder: rows of a hand -/
namespace SwK
open PySem PySem.Spec PyProof.Rows L2
theorem RwB.mono {ks : List Kd} {cs : List Ch} {bs : List (Str × Str)} {h : Str} {n m : Nat} (hl : n ≤ m) : ∀ {r : Rw}, RwB ks cs bs h n r → RwB ks cs bs h m r
  | .set _ _, q => q
  | .send _ _, q => q
  | .take _ _ _, q => q
  | .tell _, q => q
  | .go _, q => Nat.lt_of_lt_of_le (show _ < n from q) hl
  | .ite _ _, q => ⟨q.1, Nat.lt_of_lt_of_le (show _ < n from q.2) hl⟩
  | .fin, q => q
/-- rows that are right -/
structure RowsOk (ks : List Kd) (cs : List Ch) (bs : List (Str × Str)) (h : Str) (rows : List Rw) : Prop where
  ne : rows ≠ []
  few : rows.length ≤ 20
  ok : ∀ r ∈ rows, RwB ks cs bs h rows.length r
  last : ∀ (i : Nat) (r : Rw), rows[i]? = some r → i + 1 < rows.length ∨ r = .fin ∨ ∃ k, r = .go k
theorem RowsOk.of {ks : List Kd} {cs : List Ch} {bs : List (Str × Str)} {h : Str} {n : Nat} {rows : List Rw} {r : Rw} (hr : r = .fin ∨ ∃ k, r = .go k ∧ k < n) (h1 : n ≤ rows.length + 1) (h2 : rows.length ≤ 10) (h3 : ∀ r ∈ rows, RwB ks cs bs h n r) : RowsOk ks cs bs h (rows ++ [r]) := by
  have hl : (rows ++ [r]).length = rows.length + 1 := by rw [List.length_append]; rfl
  refine ⟨fun e => ?_, by omega, fun r' hm => ?_, fun i r' e => ?_⟩
  · have := congrArg List.length e
    rw [hl] at this
    cases this
  · rw [hl]
    rcases List.mem_append.mp hm with q | q
    · exact (h3 r' q).mono h1
    · have := List.mem_singleton.mp q
      subst this
      rcases hr with rfl | ⟨k, rfl, hk⟩
      · trivial
      · exact Nat.lt_of_lt_of_le hk h1
  · rw [hl]
    by_cases hi : i < rows.length
    · exact .inl (by omega)
    · have hi2 : i = rows.length := by
        have := (List.getElem?_eq_some_iff.mp e).1
        omega
      subst hi2
      rw [List.getElem?_append_right (Nat.le_refl _), Nat.sub_self] at e
      have e := Option.some.inj (show some _ = some r' from e)
      subst e
      rcases hr with rfl | ⟨k, rfl, _⟩
      · exact .inr (.inl rfl)
      · exact .inr (.inr ⟨k, rfl⟩)
theorem ImL.take {H : Hp} : ∀ {xs : List V} {ds : List Da} (n : Nat), ImL H xs ds → ImL H (xs.take n) (ds.take n)
  | _, _, 0, _ => by rw [List.take_zero, List.take_zero]; exact .nil
  | _, _, n + 1, .nil => .nil
  | _, _, n + 1, .cons a b => .cons a (ImL.take n b)
theorem ImL.drop {H : Hp} : ∀ {xs : List V} {ds : List Da} (n : Nat), ImL H xs ds → ImL H (xs.drop n) (ds.drop n)
  | _, _, 0, h => h
  | _, _, n + 1, .nil => .nil
  | _, _, n + 1, .cons a b => ImL.drop n b
theorem rows_noint {rows : List Rw} : ∀ d ∈ rows.map Rw.d, ∀ i, d ≠ .int i := fun d hd i e => by
  obtain ⟨r, _, rfl⟩ := List.mem_map.mp hd
  cases r <;> cases e
theorem no_take {rows : List Rw} (h : inV (.str "take") ((rows.map Rw.word).map V.str) = false) : ∀ r ∈ rows, ∀ l c x, r ≠ .take l c x := by
  rintro r hr l c x rfl
  have q : inV (.str "take") ((rows.map Rw.word).map V.str) = true := inV_str (List.mem_map.mpr ⟨_, hr, rfl⟩)
  rw [q] at h
  cases h
/-- rows in the building -/
def RS (ks : List Kd) (cs : List Ch) (bs : List (Str × Str)) (h : Str) (len : Nat) (fp ml rl : Addr) (H0 : Hp) (j : Nat) (H' : Hp) : Prop :=
  FB fp H0 H' ∧ ∃ (ms : List Str) (rows : List Rw) (acc : List V), NmAt H' ml ms ∧ ms.length ≤ 6 ∧ ((∀ r ∈ rows, ∀ l c x, r ≠ .take l c x) → ms.length = 6) ∧ H' rl = some (.lst acc) ∧ ImL H' acc (rows.map Rw.d) ∧ rows.length = j ∧ ∀ r ∈ rows, RwB ks cs bs h len r
theorem RS.next {ks : List Kd} {cs : List Ch} {bs : List (Str × Str)} {h : Str} {len : Nat} {fp ml rl : Addr} {H0 H5 : Hp} {j : Nat} {ms : List Str} {rows : List Rw} {acc : List V} {row : Rw} {q : Addr} (nrf : rl ≠ fp) (nrm : ml ≠ rl) (hn : H0 rl = none)
    (fb : FB fp H0 H5) (a1 : NmAt H5 ml ms) (a2 : ms.length ≤ 6) (a3 : (∀ r ∈ rows, ∀ l c x, r ≠ .take l c x) → (∀ l c x, row ≠ .take l c x) → ms.length = 6) (a4 : H5 rl = some (.lst acc)) (a5 : ImL H5 acc (rows.map Rw.d)) (a6 : rows.length = j) (a7 : ∀ r ∈ rows, RwB ks cs bs h len r) (i : Im H5 (.ref q) row.d) (r : RwB ks cs bs h len row) :
    RS ks cs bs h len fp ml rl H0 (j + 1) (upd H5 rl (.lst (acc ++ [.ref q]))) := by
  have tkp := tk_put (o := .lst (acc ++ [.ref q])) a4 ntL
  refine ⟨⟨fun a o e na => ?_, ?_⟩, ms, rows ++ [row], _, (upd_ne nrm).trans a1, a2, fun z => ?_, upd_same, ?_, ?_, fun r' hm => ?_⟩
  · exact (upd_ne (ne_of_none e hn)).trans (fb.bt _ _ e na)
  · obtain ⟨x, y, e, q1, q2⟩ := fb.fd
    exact ⟨x, y, (upd_ne (Ne.symm nrf)).trans e, q1, q2⟩
  · exact a3 (fun r hr => z r (List.mem_append_left _ hr)) (z row (List.mem_append_right _ List.mem_cons_self))
  · rw [List.map_append]
    exact (a5.append (ImL.one i)).mono tkp
  · rw [List.length_append, a6]
    rfl
  · rcases List.mem_append.mp hm with z | z
    · exact a7 r' z
    · rw [List.mem_singleton.mp z]
      exact r
def spRows : Sp := sp6 fun a b c d e g H Q => ∃ (fp np : Addr) (ns : List Str) (ks : List Kd) (cs : List Ch) (h : Str) (bs : List (Str × Str)), a = .ref fp ∧ Feed H fp ∧ Im H b (kindsD ks) ∧ Im H c (.tup (cs.map Ch.d)) ∧ d = .str h ∧ Im H e (partsD bs) ∧ DealOk ns ks cs bs ∧ g = .ref np ∧ NmAt H np ns ∧
  ∀ H' r rows, FB fp H H' → Im H' (.ref r) (.tup (rows.map Rw.d)) → RowsOk ks cs bs h rows → Q (.ref r) H'
section
variable {P : Program} {w : World} {K : PySem.W.Frag} {mg : Str → Option Value} {base : Heap}
/- _law_rows: slots 0 _law_feed_here 1 _law_kinds_here 2 _law_channels_here 3 _law_h 4 _law_boxes_here 5 _law_names_here 6 _law_marks 7 _law_rows_here 8 _law_many 9 _law_at 10 _law_form 11 _law_test 12 _law_into_here 13 _law_c 14 _law_x 15 _law_row -/
theorem sc_law_rows : FnScope ["_law_feed_here", "_law_kinds_here", "_law_channels_here", "_law_h", "_law_boxes_here", "_law_names_here", "_law_marks", "_law_rows_here", "_law_many", "_law_at", "_law_form", "_law_test", "_law_into_here", "_law_c", "_law_x", "_law_row"] ["_law_feed_here", "_law_kinds_here", "_law_channels_here", "_law_h", "_law_boxes_here", "_law_names_here"] (defScope s_law_rows) := ⟨rfl, rfl, rfl, by decide +kernel, rfl, by decide +kernel, by decide +kernel⟩
theorem ok_law_rows (T : Txt K mg) (c_law_take : C8.Cal P w K mg base 1 "_law_take" spTake []) (c_law_into : C8.Cal P w K mg base 1 "_law_into" spInto []) (c_law_new_term : C8.Cal P w K mg base 41 "_law_new_term" spNewT []) (c_law_deal : C8.Cal P w K mg base 42 "_law_deal" spDeal []) : C8.Cal P w K mg base 43 "_law_rows" spRows [] := by
  refine mkCal (f_law_rows T) (g_law_rows T) sc_law_rows (fun _ _ _ _ _ _ us hl => match us, hl with | [_, _, _, _, _, _], _ => rfl) (fun vs H Q E h => ?_) (fun vs H Q E h => ?_)
  · obtain ⟨a, b, c, d, e, g, rfl, _⟩ := sp6_len h
    rfl
  obtain ⟨a, b, c, d, e, g, rfl, h⟩ := sp6_len h
  intro cdv A outer s E hr
  have hu := hu_of hr
  obtain ⟨fp, np, ns, ks, cs, h0, bs, rfl, hf, hks, hcs, rfl, hbs, ok, rfl, hnp, k1⟩ := h
  obtain ⟨ca, cxs, rfl, ec, ic⟩ := im_tup hcs
  obtain ⟨pa, po, pxs, rfl, ep, _, ip⟩ := im_pt hbs
  have hb5 := ok.bsok.few
  have hc5 := ok.csf
  have hgam := ok.gam
  refine ⟨_, (pss_cons (ps_set (i := 6) sc_law_rows.nd rfl (by first | exact .inl rfl | exact .inr rfl) (pe_callTy call_list_of rfl (z_list T) (by decide +kernel) (pa_cons (pe_slice sl_list (pv 5) (po_some pe_int) (po_some pe_int)) pa_nil)))
        (pss_cons (ps_set (i := 7) sc_law_rows.nd rfl (by first | exact .inl rfl | exact .inr rfl) (pe_lst pa_nil))
        (pss_cons (ps_set (i := 8) sc_law_rows.nd rfl (by first | exact .inl rfl | exact .inr rfl) (pe_op op_add pe_int (C8.pe_c c_law_take hr (by omega) rfl (pa_cons (pv 0) (pa_cons pe_int pa_nil)))))
        (pss_cons (ps_for PassesOwn.never rfl (pi_range1 rfl (z_range T) (pa_cons (pe_op op_sub (pv 8) pe_int) pa_nil)) (pg_name (i := 9) sc_law_rows.nd rfl (by first | exact .inl rfl | exact .inr rfl)) (pss_cons (ps_set (i := 10) sc_law_rows.nd rfl (by first | exact .inl rfl | exact .inr rfl) (C8.pe_c c_law_take hr (by omega) rfl (pa_cons (pv 0) (pa_cons pe_int pa_nil))))
        (pss_one (ps_if (pt_cmpR op_lt (pv 10) pe_int (nomark _)) (pss_cons (ps_set (i := 11) sc_law_rows.nd rfl (by first | exact .inl rfl | exact .inr rfl) (C8.pe_c c_law_new_term hr (by omega) rfl (pa_cons (pv 0) (pa_cons (pv 1) (pa_cons (pe_callTy call_list_of rfl (z_list T) (by decide +kernel) (pa_cons (pv 4) pa_nil)) (pa_cons pe_str pa_nil))))))
        (pss_one (ps_expr (pe_bm PySem.F.plainAttrs_list PySem.F.slot_list_append PySem.F.type_list_append mt_append (pv 7) (pa_cons (pe_tup (pa_cons pe_str (pa_cons (pv 11) (pa_cons (C8.pe_c c_law_take hr (by omega) rfl (pa_cons (pv 0) (pa_cons (pv 8) pa_nil))) pa_nil)))) pa_nil))))) (pss_one (ps_if (pt_cmpR op_eq (pv 10) pe_int (nomark _)) (pss_one (ps_expr (pe_bm PySem.F.plainAttrs_list PySem.F.slot_list_append PySem.F.type_list_append mt_append (pv 7) (pa_cons (pe_ix ix_list (pe_lst (pa_cons (pe_tup (pa_cons pe_str pa_nil)) (pa_cons (pe_tup (pa_cons pe_str (pa_cons (C8.pe_c c_law_take hr (by omega) rfl (pa_cons (pv 0) (pa_cons (pv 8) pa_nil))) pa_nil))) pa_nil))) (C8.pe_c c_law_take hr (by omega) rfl (pa_cons (pv 0) (pa_cons pe_int pa_nil))) (fun _ _ => rfl)) pa_nil)))) (pss_one (ps_expr (pe_bm PySem.F.plainAttrs_list PySem.F.slot_list_append PySem.F.type_list_append mt_append (pv 7) (pa_cons (C8.pe_c c_law_deal hr (by omega) rfl (pa_cons (pv 0) (pa_cons (pv 1) (pa_cons (pv 2) (pa_cons (pv 3) (pa_cons (pv 4) (pa_cons (pv 6) pa_nil))))))) pa_nil))))))))))
        (pss_cons (ps_set (i := 12) sc_law_rows.nd rfl (by first | exact .inl rfl | exact .inr rfl) (C8.pe_c c_law_into hr (by omega) rfl (pa_cons (pv 2) (pa_cons (pv 3) (pa_cons (pv 4) pa_nil)))))
        (C8.pss_cut (ps_if (PW.pt (pw_and (pt_cmpR op_gt (pe_callB call_len rfl (z_len T) PySem.boot_len (pa_cons (pv 12) pa_nil)) pe_int (nomark _)) (pw_and1 (pt_cmpR op_notIn_seq pe_str (pe_lc (own := [("_law_row", 15)]) rfl sc_law_rows.nd (pi_list (pv 7)) (blkOk_by (N := ["_law_feed_here", "_law_kinds_here", "_law_channels_here", "_law_h", "_law_boxes_here", "_law_names_here", "_law_marks", "_law_rows_here", "_law_many", "_law_at", "_law_form", "_law_test", "_law_into_here", "_law_c", "_law_x", "_law_row"]) (sc := defScope s_law_rows) (by decide +kernel)) (fun _ _ _ _ _ => (pg_name (i := 15) sc_law_rows.nd rfl (by first | exact .inl rfl | exact .inr rfl))) (fun _ _ _ _ _ => pts_nil) (fun _ _ _ _ _ => (pe_ix (ixT (K := K) rfl) (pv 15) pe_int (fun _ _ => rfl)))) (by rfl))))) (pss_cons (ps_asg (pe_ix ix_list (pv 12) (C8.pe_c c_law_take hr (by omega) rfl (pa_cons (pv 0) (pa_cons (pe_callB call_len rfl (z_len T) PySem.boot_len (pa_cons (pv 12) pa_nil)) pa_nil))) (fun _ _ => rfl)) (pg_tup rfl (pgs_cons (pg_name (i := 13) sc_law_rows.nd rfl (by first | exact .inl rfl | exact .inr rfl)) (pgs_cons (pg_name (i := 14) sc_law_rows.nd rfl (by first | exact .inl rfl | exact .inr rfl)) pgs_nil))))
        (pss_one (ps_expr (pe_bm PySem.F.plainAttrs_list PySem.F.slot_list_insert PySem.F.type_list_insert mt_insert (pv 7) (pa_cons (C8.pe_c c_law_take hr (by omega) rfl (pa_cons (pv 0) (pa_cons (pe_op op_add (pe_callB call_len rfl (z_len T) PySem.boot_len (pa_cons (pv 7) pa_nil)) pe_int) pa_nil))) (pa_cons (pe_tup (pa_cons pe_str (pa_cons (pe_bm PySem.F.plainAttrs_list PySem.F.slot_list_pop PySem.F.type_list_pop mt_popAt (pv 6) (pa_cons pe_int pa_nil)) (pa_cons (pv 13) (pa_cons (pv 14) pa_nil))))) pa_nil)))))) pss_nil)
        (pss_cons (ps_if (pt_cmpR op_gt (C8.pe_c c_law_take hr (by omega) rfl (pa_cons (pv 0) (pa_cons pe_int pa_nil))) pe_int (nomark _)) (pss_one (ps_ret (pe_op op_catA (pe_callTy call_tuple_of rfl (z_tuple T) (by decide +kernel) (pa_cons (pv 7) pa_nil)) (pe_tup (pa_cons (pe_tup (pa_cons pe_str (pa_cons (C8.pe_c c_law_take hr (by omega) rfl (pa_cons (pv 0) (pa_cons (pv 8) pa_nil))) pa_nil))) pa_nil))))) pss_nil)
        (pss_one (ps_ret (pe_op op_catA (pe_callTy call_tuple_of rfl (z_tuple T) (by decide +kernel) (pa_cons (pv 7) pa_nil)) (pe_tup (pa_cons (pe_tup (pa_cons pe_str pa_nil)) pa_nil)))))))))))), ?_⟩
  have ecut : cutV (ns.map V.str) (some 20) (some 26) = ((ns.drop 20).take 6).map V.str := by
    refine cut_nm (a := 20) (b := 26) ?_ ?_
    · rw [ok.nsok.len]
      decide
    · rw [ok.nsok.len]
      decide
  refine ⟨_, rfl, _, rfl, _, rfl, np, _, rfl, SqL.of hnp, fun zp hzp => ?_⟩
  rw [ecut]
  have hml0 : ((ns.drop 20).take 6).length = 6 := by
    rw [List.length_take, List.length_drop, ok.nsok.len] <;> rfl
  generalize hms0 : (ns.drop 20).take 6 = ms0 at hml0 ⊢
  have v1 : Same H (upd H zp (.lst (ms0.map V.str))) := same_new hzp
  have ezp : upd H zp (.lst (ms0.map V.str)) zp = some (.lst (ms0.map V.str)) := upd_same
  generalize upd H zp (.lst (ms0.map V.str)) = H1 at v1 ezp ⊢
  refine ⟨zp, _, rfl, .inl (SqL.of ezp), fun ml hml => ?_⟩
  have v2 : Same H1 (upd H1 ml (.lst (ms0.map V.str))) := same_new hml
  have eml : NmAt (upd H1 ml (.lst (ms0.map V.str))) ml ms0 := upd_same
  generalize upd H1 ml (.lst (ms0.map V.str)) = H2 at v2 eml ⊢
  refine ⟨le_size (by show 0 ≤ 100000; decide), fun rl hrl => ?_⟩
  have v3 : Same H2 (upd H2 rl (.lst [])) := same_new hrl
  have erl : upd H2 rl (.lst []) rl = some (.lst []) := upd_same
  have nmr : ml ≠ rl := ne_of_none eml hrl
  generalize upd H2 rl (.lst []) = H3 at v3 erl ⊢
  have v13 := (v1.trans v2).trans v3
  have hrl0 : H rl = none := new_old (v1.trans v2) hrl
  have hf3 := hf.same v13
  have eml3 : NmAt H3 ml ms0 := v3 _ _ eml
  refine ⟨_, rfl, fp, 10, rfl, hf3, rfl, by decide, by decide, fun H4 d4 p4 q4 b4 => ⟨_, _, rfl, rfl, ?_⟩⟩
  obtain ⟨n, rfl⟩ : ∃ n : Nat, d4 = (n : Int) := ⟨d4.toNat, by omega⟩
  have nmf : ml ≠ fp := feed_ne hf3 eml3 nm_noint
  have nrf : rl ≠ fp := feed_ne hf3 erl (fun x hx => by cases hx)
  have b04 := (FB.same hf v13).trans b4
  have hin : (1 : Int) + (n : Int) - 1 = (n : Int) := by omega
  refine ⟨_, rfl, _, _, rfl, rfl, _, rfl, ?_⟩
  rw [hin]
  refine ⟨by omega, by omega, ?_⟩
  rw [Int.toNat_natCast]
  have many0 : (1 : Int) ≤ 1 + (n : Int) := by omega
  have many1 : (1 : Int) + (n : Int) ≤ 4294967296 := by omega
  refine for_range (fun j σ H' => RS ks cs bs h0 (n + 1) fp ml rl H j H' ∧ ∃ (o9 o10 o11 : Option V), σ = [some (.ref fp), some b, some (.ref ca), some (.str h0), some (.ref pa), some (.ref np), some (.ref ml), some (.ref rl), some (.int (1 + (n : Int))), o9, o10, o11, none, none, none, none])
    ⟨⟨b04, ms0, [], [], b4.ne eml3 nmf, by omega, fun _ => hml0, b4.ne erl nrf, .nil, rfl, fun r hr => by cases hr⟩, _, _, _, rfl⟩ ?_ ?_
  · rintro j σ H' hj ⟨⟨fb, ms, rows, acc, hms, hmsl, hms6, hacc, iacc, hrj, hrows⟩, o9, o10, o11, rfl⟩
    have hfd := fb.fd
    have tkH := fb.tk hf
    have hacl : acc.length = j := by rw [iacc.length, List.length_map]; exact hrj
    refine ⟨_, rfl, fp, 16, rfl, hfd, rfl, by decide, by decide, fun H5 d5 p5 q5 b5 => ?_⟩
    refine ⟨_, rfl, _, _, rfl, rfl, _, rfl, ?_⟩
    have b05 := fb.trans b5
    have tk5 := b05.tk hf
    have ms5 : NmAt H5 ml ms := hms.fb hfd b5
    have acc5 : H5 rl = some (.lst acc) := b5.ne hacc nrf
    have iacc5 := iacc.mono (b5.tk hfd)
    by_cases g1 : d5 < 2
    · refine propT g1 ?_
      refine ⟨_, rfl, _, rfl, _, rfl, pa, pxs, rfl, .inr (sqT_frz (tk5 _ _ ep trivial)), fun l hl => ?_⟩
      have sl := same_new (o := .lst pxs) hl
      have tks := tk5.trans (Tk.of sl)
      refine ⟨fp, ks, l, bs, "num", rfl, b5.fd.same sl, hks.mono tks, ok.ksok, rfl, ⟨pxs, upd_same, ip.mono tks⟩, hgam, rfl, LvK.num 4, fun H6 r t b6 it tm => ?_⟩
      have b56 := (b5.andS sl).trans b6
      have acc6 : H6 rl = some (.lst acc) := b56.ne hacc nrf
      refine ⟨_, rfl, .inl ⟨rfl, _, SqL.of acc6⟩, _, rfl, _, rfl, _, rfl, fp, _, rfl, b56.fd, rfl, many0, many1, fun H7 d7 p7 q7 b7 => ⟨le_size (by show 3 ≤ 100000; decide), fun tq htq => ?_⟩⟩
      obtain ⟨k, rfl⟩ : ∃ k : Nat, d7 = (k : Int) := ⟨d7.toNat, by omega⟩
      have bz := (b56.trans b7).andS (same_new (o := .tup [.str "if", .ref r, .int (k : Int)]) htq)
      refine ⟨rl, _, _, rfl, rfl, bz.ne hacc nrf, lt_size (by omega), ?_⟩
      exact ⟨RS.next (row := .ite t k) nrf nmr hrl0 (fb.trans bz) (hms.fb hfd bz) hmsl (fun z _ => hms6 z) (bz.ne hacc nrf) (iacc.mono (bz.tk hfd)) hrj hrows (im_new htq (.cons (.str _) (.cons (it.mono (b7.tk b56.fd)) (.cons (.int _) .nil)))) ⟨tm, by omega⟩, _, _, _, rfl⟩
    · refine propF g1 ⟨_, rfl, rfl, _, rfl, ?_⟩
      by_cases g2 : d5 = 2
      · refine propT (congrArg V.int g2) ?_
        refine ⟨_, rfl, .inl ⟨rfl, _, SqL.of acc5⟩, le_size (by show 1 ≤ 100000; decide), fun t1 ht1 => ?_⟩
        have s1 : Same H5 (upd H5 t1 (.tup [.str "end"])) := same_new ht1
        have e1 : Im (upd H5 t1 (.tup [.str "end"])) (.ref t1) (Rw.d .fin) := im_new ht1 (.cons (.str _) .nil)
        generalize upd H5 t1 (.tup [.str "end"]) = H6 at s1 e1 ⊢
        have b6 := b5.andS s1
        refine ⟨_, rfl, _, rfl, fp, _, rfl, b6.fd, rfl, many0, many1, fun H7 d7 p7 q7 b7 => ⟨le_size (by show 2 ≤ 100000; decide), fun t2 ht2 => ?_⟩⟩
        obtain ⟨k, rfl⟩ : ∃ k : Nat, d7 = (k : Int) := ⟨d7.toNat, by omega⟩
        have s2 : Same H7 (upd H7 t2 (.tup [.str "go", .int (k : Int)])) := same_new ht2
        have e2 : Im (upd H7 t2 (.tup [.str "go", .int (k : Int)])) (.ref t2) (Rw.d (.go k)) := im_new ht2 (.cons (.str _) (.cons (.int _) .nil))
        generalize upd H7 t2 (.tup [.str "go", .int (k : Int)]) = H8 at s2 e2 ⊢
        refine ⟨le_size (by show 2 ≤ 100000; decide), fun t3 ht3 => ?_⟩
        have s3 : Same H8 (upd H8 t3 (.lst [.ref t1, .ref t2])) := same_new ht3
        have e3 : upd H8 t3 (.lst [.ref t1, .ref t2]) t3 = some (.lst [.ref t1, .ref t2]) := upd_same
        generalize upd H8 t3 (.lst [.ref t1, .ref t2]) = H9 at s3 e3 ⊢
        have b79 := (b7.andS s2).andS s3
        have b9 := b6.trans b79
        have e1' := e1.mono (b79.tk b6.fd)
        have e2' := e2.mono (Tk.of s3)
        refine ⟨_, rfl, fp, 2, rfl, b9.fd, rfl, by decide, by decide, fun Ha da pa' qa ba => ?_⟩
        have e3a : Ha t3 = some (.lst [.ref t1, .ref t2]) := ba.ne e3 (feed_ne b9.fd e3 (fun x hx i e => by
          rw [e] at hx
          rcases List.mem_cons.mp hx with z | z
          · cases z
          · cases List.mem_singleton.mp z))
        have bz := b9.trans ba
        have tka := ba.tk b9.fd
        by_cases h0 : da = 0
        · subst h0
          refine ⟨t3, _, _, _, rfl, rfl, SqL.of e3a, at0, rl, _, _, rfl, rfl, bz.ne hacc nrf, lt_size (by omega), ?_⟩
          exact ⟨RS.next (row := .fin) nrf nmr hrl0 (fb.trans bz) (hms.fb hfd bz) hmsl (fun z _ => hms6 z) (bz.ne hacc nrf) (iacc.mono (bz.tk hfd)) hrj hrows (e1'.mono tka) trivial, _, _, _, rfl⟩
        · have : da = 1 := by omega
          subst this
          refine ⟨t3, _, _, _, rfl, rfl, SqL.of e3a, at1, rl, _, _, rfl, rfl, bz.ne hacc nrf, lt_size (by omega), ?_⟩
          exact ⟨RS.next (row := .go k) nrf nmr hrl0 (fb.trans bz) (hms.fb hfd bz) hmsl (fun z _ => hms6 z) (bz.ne hacc nrf) (iacc.mono (bz.tk hfd)) hrj hrows (e2'.mono tka) (show k < n + 1 by omega), _, _, _, rfl⟩
      · refine propF (fun e => g2 (V.int.inj e)) ?_
        refine ⟨_, rfl, .inl ⟨rfl, _, SqL.of acc5⟩, _, rfl, _, rfl, _, rfl, _, rfl, _, rfl, _, rfl, fp, ns, ks, cs, h0, bs, ml, ms, rfl, b5.fd, hks.mono tk5, hcs.mono tk5, rfl, hbs.mono tk5, ok, rfl, ms5, hmsl, fun H6 r row ms' bt fd6 nm6 hle hor irow hrow => ?_⟩
        have acc6 : H6 rl = some (.lst acc) := bt _ _ acc5 (by rintro (z | z); exact nrf z; exact nmr z.symm)
        have hmln : H ml = none := new_old v1 hml
        refine ⟨rl, _, _, rfl, rfl, acc6, lt_size (by omega), ?_⟩
        have fb6 : FB fp H H6 := ⟨fun a o e na => bt _ _ (b05.bt _ _ e na) (by rintro (z | z); exact na z; exact ne_of_none e hmln z), fd6⟩
        have tk6 : Tk H5 H6 := bt.tk fun a o ea e => by
          rcases ea with z | z
          · obtain ⟨x, y, e', _⟩ := b5.fd
            rw [z, e'] at e
            cases e
            exact ntL
          · have ms5' : H5 ml = some (.lst (ms.map V.str)) := ms5
            rw [z, ms5'] at e
            cases e
            exact ntL
        refine ⟨RS.next (row := row) nrf nmr hrl0 fb6 nm6 (Nat.le_trans hle hmsl) (fun z y => ?_) acc6 (iacc5.mono tk6) hrj hrows irow (hrow _), _, _, _, rfl⟩
        rcases hor with u | ⟨l, c, x, u⟩
        · rw [u]
          exact hms6 z
        · exact absurd u (y l c x)
  · rintro σ H' ⟨⟨fb, ms, rows, acc, hms, hmsl, hms6, hacc, iacc, hrj, hrows⟩, o9, o10, o11, rfl⟩
    have hfd := fb.fd
    have tkH := fb.tk hf
    refine ⟨_, rfl, _, rfl, _, rfl, cs, h0, bs, hcs.mono tkH, rfl, hbs.mono tkH, hc5, by omega, fun H5 iq ixs il s5 hiq eiq iil hil hiall => ?_⟩
    have fb5 := fb.andS s5
    have acc5 := s5 _ _ hacc
    have iacc5 := iacc.mono (Tk.of s5)
    have hacl : acc.length = rows.length := by rw [iacc.length, List.length_map]
    have hixl : ixs.length = il.length := by rw [iil.length, List.length_map]
    refine ⟨fun σ' H' => (FB fp H H' ∧ ∃ (rows : List Rw) (acc : List V), H' rl = some (.lst acc) ∧ ImL H' acc (rows.map Rw.d) ∧ n ≤ rows.length ∧ rows.length ≤ n + 1 ∧ ∀ r ∈ rows, RwB ks cs bs h0 (n + 1) r) ∧ ∃ (o9 o10 o11 o12 o13 o14 o15 : Option V), σ' = [some (.ref fp), some b, some (.ref ca), some (.str h0), some (.ref pa), some (.ref np), some (.ref ml), some (.ref rl), some (.int (1 + (n : Int))), o9, o10, o11, o12, o13, o14, o15], ?_, ?_⟩
    · refine ⟨_, rfl, _, _, rfl, .inl ⟨_, SqL.of eiq, rfl⟩, _, _, rfl, rfl, _, rfl, ?_⟩
      by_cases g1 : (0 : Int) < ((ixs.length : Nat) : Int)
      · refine propT g1 ?_
        refine ⟨_, rfl, rl, rfl, ⟨_, SqL.of acc5⟩, fun D hD => lc_list (K := K) (a := rl) (xs := acc) (fun i H2 => Same H5 H2 ∧ H2 D = some (.lst (((rows.take i).map Rw.word).map V.str))) ⟨same_new hD, upd_same⟩ (fun i H2 _ q => SqL.of (q.1 _ _ acc5)) (fun i x H2 hx q => ?_) (fun H2 q => ?_)⟩
        · obtain ⟨t1, ht⟩ := q
          obtain ⟨rw', hrw, ix⟩ := iml_map iacc5 hx
          obtain ⟨qa, ys, rfl, eqa⟩ := rw_head (ix.mono (Tk.of t1))
          have hi := (List.getElem?_eq_some_iff.mp hrw).1
          refine ⟨rfl, lcY (iteT ⟨_, rfl, qa, _, _, _, rfl, rfl, SqT.of eqa, at0, _, ht, ?_, same_put t1 hD, ?_⟩)⟩
          · rw [List.length_map, List.length_map, List.length_take]
            exact lt_size (by omega)
          · rw [upd_same, take_snoc hrw, List.map_append, List.map_append]
            rfl
        obtain ⟨t1, ht⟩ := q
        rw [hacl, List.take_length] at ht
        refine ⟨D, _, rfl, .inl (SqL.of ht), rfl, str_all, _, rfl, ?_⟩
        have fb6 := fb5.andS t1
        have acc6 := t1 _ _ acc5
        have iacc6 := iacc5.mono (Tk.of t1)
        cases hb : inV (.str "take") ((rows.map Rw.word).map V.str) with
        | true => exact ⟨⟨fb6, rows, acc, acc6, iacc6, by omega, by omega, hrows⟩, _, _, _, _, _, _, _, rfl⟩
        | false =>
          have hm6 := hms6 (no_take hb)
          have ms6 : NmAt H2 ml ms := t1 _ _ (s5 _ _ hms)
          have eiq6 := t1 _ _ eiq
          have iil6 := iil.mono (Tk.of t1)
          have niq := feed_ne fb6.fd eiq6 (iml_noint iil6 pairs_noint)
          refine ⟨_, rfl, _, rfl, _, rfl, _, _, rfl, .inl ⟨_, SqL.of eiq6, rfl⟩, fp, _, rfl, fb6.fd, rfl, by omega, by omega, fun H7 d7 p7 q7 b7 => ?_⟩
          obtain ⟨pp, v, hpm, hv, iv⟩ := iml_at iil6 p7 (by omega)
          obtain ⟨va, z1, z2, rfl, ev, i1, i2⟩ := im2 (iv.mono (b7.tk fb6.fd))
          cases im_str i1
          cases im_str i2
          have fb7 := fb6.trans b7
          have acc7 := b7.ne acc6 nrf
          refine ⟨iq, _, _, _, rfl, rfl, SqL.of (b7.ne eiq6 niq), hv, va, _, rfl, SqT.of ev, rfl, _, _, rfl, _, _, rfl, rfl, ?_⟩
          refine ⟨_, rfl, .inl ⟨rfl, _, SqL.of acc7⟩, _, rfl, _, rfl, _, _, rfl, .inl ⟨_, SqL.of acc7, rfl⟩, _, _, rfl, rfl, fp, _, rfl, fb7.fd, rfl, by omega, by omega, fun H8 d8 p8 q8 b8 => ?_⟩
          have b68 := b7.trans b8
          have ms8 : H8 ml = some (.lst (ms.map V.str)) := b68.ne ms6 nmf
          have hpos : 0 < ms.length := by omega
          refine ⟨_, rfl, .inl ⟨rfl, _, SqL.of ms8⟩, ml, _, 0, 0, V.str ms[0], rfl, rfl, ms8, by decide, by decide, ?_, (by rw [List.getElem?_map, List.getElem?_eq_getElem hpos]; rfl), _, rfl, _, rfl, le_size (by show 4 ≤ 100000; decide), fun tq htq => ?_⟩
          · exact seqIndex_of (by decide) (by rw [List.length_map]; omega)
          have b08 := fb6.trans b68
          have e8r : upd H8 ml (.lst ((ms.map V.str).eraseIdx 0)) rl = some (.lst acc) := (upd_ne (Ne.symm nmr)).trans (b68.ne acc6 nrf)
          have sq := same_new (o := .tup [.str "take", .str ms[0], .str pp.1, .str pp.2]) htq
          have tk8 : Tk H8 (upd H8 ml (.lst ((ms.map V.str).eraseIdx 0))) := tk_put ms8 ntL
          have tkall : Tk H2 (upd (upd H8 ml (.lst ((ms.map V.str).eraseIdx 0))) tq (.tup [.str "take", .str ms[0], .str pp.1, .str pp.2])) := ((b68.tk fb6.fd).trans tk8).trans (Tk.of sq)
          refine ⟨rl, _, d8, _, rfl, rfl, sq _ _ e8r, lt_size (by omega), p8, by omega, ?_⟩
          have tkr := tk_put (o := .lst (acc.take d8.toNat ++ [.ref tq] ++ acc.drop d8.toNat)) (sq _ _ e8r) ntL
          have hmln : H ml = none := new_old v1 hml
          obtain ⟨ch, hch, hc1, hc2, hc3⟩ := hiall pp hpm
          have hlen : (rows.take d8.toNat ++ [Rw.take ms[0] pp.1 pp.2] ++ rows.drop d8.toNat).length = rows.length + 1 := by
            rw [List.length_append, List.length_append, List.length_take, List.length_drop]
            show min d8.toNat rows.length + 1 + (rows.length - d8.toNat) = rows.length + 1
            omega
          refine ⟨⟨⟨fun a o e na => ?_, ?_⟩, rows.take d8.toNat ++ [.take ms[0] pp.1 pp.2] ++ rows.drop d8.toNat, _, upd_same, ?_, by omega, by omega, fun r hr => ?_⟩, _, _, _, _, _, _, _, rfl⟩
          · exact (upd_ne (ne_of_none e hrl0)).trans (sq _ _ ((upd_ne (ne_of_none e hmln)).trans (b08.bt _ _ e na)))
          · obtain ⟨x, y, e, q1, q2⟩ := b08.fd
            exact ⟨x, y, (upd_ne (Ne.symm nrf)).trans (sq _ _ ((upd_ne (Ne.symm nmf)).trans e)), q1, q2⟩
          · rw [List.map_append, List.map_append, List.map_take, List.map_drop]
            have ii := iacc6.mono tkall
            exact (((ii.take _).append (ImL.one (im_new htq (.cons (.str _) (.cons (.str _) (.cons (.str _) (.cons (.str _) .nil))))))).append (ii.drop _)).mono tkr
          · rcases List.mem_append.mp hr with z | z
            · rcases List.mem_append.mp z with z | z
              · exact hrows r (List.mem_of_mem_take z)
              · rw [List.mem_singleton.mp z]
                exact ⟨ch, hch, hc1, hc2, lkE_of_mem ok.bsok.nd hc3⟩
            · exact hrows r (List.mem_of_mem_drop z)
      · exact propF g1 (iteF ⟨⟨fb5, rows, acc, acc5, iacc5, by omega, by omega, hrows⟩, _, _, _, _, _, _, _, rfl⟩)
    · rintro σ' H6 ⟨⟨fb6, rows, acc, acc6, iacc6, hr1, hr2, hrows⟩, o9, o10, o11, o12, o13, o14, o15, rfl⟩
      have hacl : acc.length = rows.length := by rw [iacc6.length, List.length_map]
      refine ⟨_, rfl, fp, 4, rfl, fb6.fd, rfl, by decide, by decide, fun H7 d7 p7 q7 b7 => ⟨_, _, rfl, rfl, _, rfl, ?_⟩⟩
      have acc7 := b7.ne acc6 nrf
      have iacc7 := iacc6.mono (b7.tk fb6.fd)
      have fb7 := fb6.trans b7
      have fin : ∀ (H8 : Hp) (t t2 t3 : Addr) (row : Rw), FB fp H7 H8 → H8 t = some (.tup acc) → Im H8 (.ref t2) row.d → H8 t3 = some (.tup [.ref t2]) → (row = .fin ∨ ∃ k, row = .go k ∧ k < n + 1) → ∃ a b xs ys, V.ref t = .ref a ∧ V.ref t3 = .ref b ∧ SqT K H8 a xs ∧ SqT K H8 b ys ∧ xs.length + ys.length ≤ sizeLine ∧ (xs = [] → Q (.ref b) H8) ∧ (xs ≠ [] → ys = [] → Q (.ref a) H8) ∧ (xs ≠ [] → ys ≠ [] → ∀ p, H8 p = none → Q (.ref p) (upd H8 p (.tup (xs ++ ys)))) := by
        intro H8 t t2 t3 row b8 et i2 e3 hrow
        have ro : RowsOk ks cs bs h0 (rows ++ [row]) := RowsOk.of hrow (by omega) (by omega) hrows
        have i8 := iacc7.mono (b8.tk fb7.fd)
        refine ⟨t, t3, acc, [.ref t2], rfl, rfl, SqT.of et, SqT.of e3, le_size (by rw [hacl]; show _ + 1 ≤ _; omega), fun e => ?_, (fun _ e => by cases e), fun _ _ p hp => ?_⟩
        · have hr0 : rows = [] := List.eq_nil_of_length_eq_zero (by rw [← hacl, e]; rfl)
          refine k1 H8 t3 (rows ++ [row]) (fb7.trans b8) ?_ ro
          rw [hr0]
          exact Im.tup e3 (.cons i2 .nil)
        · refine k1 _ p (rows ++ [row]) ((fb7.trans b8).andS (same_new hp)) ?_ ro
          rw [List.map_append]
          exact im_new hp (i8.append (.cons i2 .nil))
      by_cases g : 0 < d7
      · refine propT g ?_
        refine ⟨_, rfl, rl, _, rfl, .inl ⟨SqL.of acc7, fun t ht => ?_⟩⟩
        have s1 : Same H7 (upd H7 t (.tup acc)) := same_new ht
        have e1 : upd H7 t (.tup acc) t = some (.tup acc) := upd_same
        generalize upd H7 t (.tup acc) = H8 at s1 e1 ⊢
        have b8 := FB.same fb7.fd s1
        refine ⟨_, rfl, _, rfl, fp, _, rfl, b8.fd, rfl, many0, many1, fun H9 d9 p9 q9 b9 => ⟨le_size (by show 2 ≤ 100000; decide), fun t2 ht2 => ⟨le_size (by show 1 ≤ 100000; decide), fun t3 ht3 => ?_⟩⟩⟩
        obtain ⟨k, rfl⟩ : ∃ k : Nat, d9 = (k : Int) := ⟨d9.toNat, by omega⟩
        have s2 := same_new (o := .tup [.str "go", .int (k : Int)]) ht2
        have s3 := same_new (o := .tup [.ref t2]) ht3
        exact fin _ t t2 t3 (.go k) (((b8.trans b9).andS s2).andS s3) (s3 _ _ (s2 _ _ (b9.tk b8.fd _ _ e1 trivial))) ((im_new ht2 (.cons (.str _) (.cons (.int _) .nil))).mono (Tk.of s3)) upd_same (.inr ⟨k, rfl, by omega⟩)
      · refine propF g ?_
        refine ⟨_, rfl, rl, _, rfl, .inl ⟨SqL.of acc7, fun t ht => ?_⟩⟩
        have s1 : Same H7 (upd H7 t (.tup acc)) := same_new ht
        have e1 : upd H7 t (.tup acc) t = some (.tup acc) := upd_same
        generalize upd H7 t (.tup acc) = H8 at s1 e1 ⊢
        have b8 := FB.same fb7.fd s1
        refine ⟨le_size (by show 1 ≤ 100000; decide), fun t2 ht2 => ⟨le_size (by show 1 ≤ 100000; decide), fun t3 ht3 => ?_⟩⟩
        have s2 := same_new (o := .tup [.str "end"]) ht2
        have s3 := same_new (o := .tup [.ref t2]) ht3
        exact fin _ t t2 t3 .fin ((b8.andS s2).andS s3) (s3 _ _ (s2 _ _ e1)) ((im_new ht2 (.cons (.str _) .nil)).mono (Tk.of s3)) upd_same (.inl rfl)
end
end SwK
set_option maxHeartbeats 8000000
/-! the builder: names -/
namespace SwK
open PySem PySem.Spec PyProof.Rows L2
def Q5 : List Nat := [113, 120, 122, 118, 119]
def nmL (cs : List Nat) (a c : Nat) : List Nat := cs.take a ++ [c] ++ cs.drop a
def letC (z : Int) (k : Nat) : Nat := 97 + ((z + 5 * (k : Int)) % 26).toNat
def qs (k : Nat) : List Nat := if k % 2 = 1 then [113] else []
def namesA (cs : List Nat) (a : Nat) (z : Int) (n : Nat) : List Str := (List.range n).map fun k => SX.S (nmL cs a (letC z k))
def namesB (cs : List Nat) (a : Nat) (z : Int) (n : Nat) : List Str := (List.range n).map fun k => SX.S (nmL cs a (letC z (k - k % 2)) ++ qs k)
theorem letC_inj {z : Int} {i j : Nat} (hi : i < 26) (hj : j < 26) (h : letC z i = letC z j) : i = j := by
  unfold letC at h
  omega
theorem nmL_inj {cs : List Nat} {a c d : Nat} (h : nmL cs a c = nmL cs a d) : c = d := by
  have h1 := List.append_cancel_left (List.append_cancel_right h)
  injection h1
theorem nmL_len (cs : List Nat) (a c : Nat) : (nmL cs a c).length = cs.length + 1 := by
  unfold nmL
  rw [List.length_append, List.length_append, List.length_take, List.length_drop]
  show min a cs.length + 1 + (cs.length - a) = _
  omega
theorem nd_range {f : Nat → Str} {n : Nat} (h : ∀ i j, i < n → j < n → f i = f j → i = j) : ((List.range n).map f).Nodup := by
  unfold List.Nodup
  rw [List.pairwise_map]
  refine List.Pairwise.imp_of_mem (R := fun a b => a < b) (fun {a b} ha hb hab e => ?_) List.pairwise_lt_range
  have := h a b (List.mem_range.mp ha) (List.mem_range.mp hb) e
  omega
/-- a name that no word of the program is -/
def GoodN (x : List Nat) : Prop := x.length = 1 ∨ ∃ c ∈ x, c ∈ Q5
theorem nmL_good {cs : List Nat} (h : ∀ c ∈ cs, c ∈ Q5) (a c : Nat) : GoodN (nmL cs a c) := by
  cases cs with
  | nil => exact .inl (nmL_len [] a c)
  | cons x r =>
    refine .inr ⟨x, ?_, h x List.mem_cons_self⟩
    have hm : x ∈ (x :: r).take a ++ (x :: r).drop a := by
      rw [List.take_append_drop]
      exact List.mem_cons_self
    unfold nmL
    rcases List.mem_append.mp hm with q | q
    · exact List.mem_append_left _ (List.mem_append_left _ q)
    · exact List.mem_append_right _ q
theorem GoodN.num {x : List Nat} (h : GoodN x) : ¬ SX.S x = ("num" : Str) := fun e => by
  have e2 : SX.S x = SX.S [110, 117, 109] := e.trans (by decide +kernel)
  have e3 := SX.S_inj e2
  subst e3
  rcases h with h | ⟨c, h1, h2⟩
  · exact absurd h (by decide)
  · revert c
    decide
theorem GoodN.by' {x : List Nat} (h : GoodN x) {k : Nat} (h0 : 97 ≤ k) (h1 : k ≤ 104) : ¬ SX.S x = (⟨#[98, 121, k]⟩ : Str) := fun e => by
  have e2 : SX.S x = SX.S [98, 121, k] := e
  have e3 := SX.S_inj e2
  subst e3
  rcases h with h | ⟨c, h2, h3⟩
  · cases h
  · have : c = 98 ∨ c = 121 ∨ c = k := by simpa using h2
    have h4 : c = 113 ∨ c = 120 ∨ c = 122 ∨ c = 118 ∨ c = 119 := by simpa [Q5] using h3
    omega
theorem nsOk_of {f : Nat → List Nat} (inj : ∀ i j, i < 26 → j < 26 → f i = f j → i = j) (good : ∀ i, GoodN (f i)) : NsOk ((List.range 26).map fun k => SX.S (f k)) := by
  refine ⟨by rw [List.length_map, List.length_range], nd_range fun i j hi hj e => inj i j hi hj (SX.S_inj e), fun hm => ?_, fun c h0 h1 hm => ?_⟩
  · obtain ⟨k, _, e⟩ := List.mem_map.mp hm
    exact (good k).num e
  · obtain ⟨k, _, e⟩ := List.mem_map.mp hm
    exact (good k).by' h0 h1 e
theorem nsOkA {cs : List Nat} (h : ∀ c ∈ cs, c ∈ Q5) (a : Nat) (z : Int) : NsOk (namesA cs a z 26) :=
  nsOk_of (f := fun k => nmL cs a (letC z k)) (fun i j hi hj e => letC_inj hi hj (nmL_inj e)) fun i => nmL_good h a _
theorem qs_len (k : Nat) : (qs k).length = k % 2 := by
  unfold qs
  split
  · rename_i h
    rw [h]
    rfl
  · show 0 = k % 2
    omega
theorem nsOkB {cs : List Nat} (h : ∀ c ∈ cs, c ∈ Q5) (a : Nat) (z : Int) : NsOk (namesB cs a z 26) := by
  refine nsOk_of (f := fun k => nmL cs a (letC z (k - k % 2)) ++ qs k) (fun i j hi hj e => ?_) fun i => ?_
  · have e : nmL cs a (letC z (i - i % 2)) ++ qs i = nmL cs a (letC z (j - j % 2)) ++ qs j := e
    have hl := congrArg List.length e
    rw [List.length_append, List.length_append, nmL_len, nmL_len, qs_len, qs_len] at hl
    have hq : qs i = qs j := by
      unfold qs
      rw [show i % 2 = j % 2 by omega]
    rw [hq] at e
    have := letC_inj (by omega) (by omega) (nmL_inj (List.append_cancel_right e))
    omega
  · rcases nmL_good h a (letC z (i - i % 2)) with g | ⟨c, g1, g2⟩
    · by_cases hi : i % 2 = 1
      · refine .inr ⟨113, List.mem_append_right _ ?_, by decide⟩
        unfold qs
        rw [if_pos hi]
        exact List.mem_cons_self
      · left
        rw [List.length_append, g, qs_len]
        omega
    · exact .inr ⟨c, List.mem_append_left _ g1, g2⟩
theorem join_ones : ∀ cs : List Nat, TL.joinL [] (cs.map fun c => [c]) = cs
  | [] => rfl
  | [_] => rfl
  | c :: d :: r => congrArg (c :: ·) (join_ones (d :: r))
theorem join_S1 (cs : List Nat) : Txt.join ("" : Str) (cs.map fun c => SX.S [c]) = SX.S cs := by
  have := SX.join_S [] (cs.map fun c => [c])
  rw [join_ones, List.map_map] at this
  exact this
theorem sum_ones : ∀ cs : List Nat, ((cs.map fun c => SX.S [c]).map (·.length)).sum = cs.length
  | [] => rfl
  | c :: r => by
    rw [List.map_cons, List.map_cons, List.sum_cons, sum_ones r, SX.S_len, List.length_cons]
    show 1 + r.length = r.length + 1
    omega
theorem at_q : ∀ {d : Int}, 0 ≤ d → d < 5 → ∃ c ∈ Q5, atI ("qxzvw" : Str).cps.toList d = some c := fun {d} h1 h2 => by
  have : d = 0 ∨ d = 1 ∨ d = 2 ∨ d = 3 ∨ d = 4 := by omega
  rcases this with h | h | h | h | h <;> subst h
  · exact ⟨113, by decide, atI_nat (j := 0) (by decide +kernel)⟩
  · exact ⟨120, by decide, atI_nat (j := 1) (by decide +kernel)⟩
  · exact ⟨122, by decide, atI_nat (j := 2) (by decide +kernel)⟩
  · exact ⟨118, by decide, atI_nat (j := 3) (by decide +kernel)⟩
  · exact ⟨119, by decide, atI_nat (j := 4) (by decide +kernel)⟩
theorem at_let (z : Int) (k : Nat) : atI ("abcdefghijklmnopqrstuvwxyz" : Str).cps.toList ((z + 5 * (k : Int)) % 26) = some (letC z k) := by
  have h0 := Int.emod_nonneg (z + 5 * (k : Int)) (show (26 : Int) ≠ 0 by decide)
  have h1 := Int.emod_lt_of_pos (z + 5 * (k : Int)) (show (0 : Int) < 26 by decide)
  have e : ("abcdefghijklmnopqrstuvwxyz" : Str).cps.toList = (List.range 26).map (97 + ·) := by decide +kernel
  rw [e]
  unfold letC
  generalize (z + 5 * (k : Int)) % 26 = d at h0 h1
  have hd : d = ((d.toNat : Nat) : Int) := by omega
  have key : atI ((List.range 26).map (97 + ·)) ((d.toNat : Nat) : Int) = some (97 + d.toNat) := atI_nat (by
    rw [List.getElem?_map, List.getElem?_range (by omega)]
    rfl)
  rw [← hd] at key
  exact key
theorem names_at {cs : List Nat} {a n : Nat} {z : Int} {k : Nat} (hk : k < n) : ((namesA cs a z n).map V.str)[k]? = some (V.str (SX.S (nmL cs a (letC z k)))) := by
  unfold namesA
  rw [List.getElem?_map, List.getElem?_map, List.getElem?_range hk]
  rfl
theorem namesA_succ (cs : List Nat) (a : Nat) (z : Int) (n : Nat) : (namesA cs a z (n + 1)).map V.str = (namesA cs a z n).map V.str ++ [V.str (SX.S (nmL cs a (letC z n)))] := by
  unfold namesA
  rw [List.range_succ, List.map_append, List.map_append]
  rfl
theorem namesB_succ (cs : List Nat) (a : Nat) (z : Int) (n : Nat) : (namesB cs a z (n + 1)).map V.str = (namesB cs a z n).map V.str ++ [V.str (SX.S (nmL cs a (letC z (n - n % 2)) ++ qs n))] := by
  unfold namesB
  rw [List.range_succ, List.map_append, List.map_append]
  rfl
theorem namesA_len (cs : List Nat) (a : Nat) (z : Int) (n : Nat) : ((namesA cs a z n).map V.str).length = n := by
  unfold namesA
  rw [List.length_map, List.length_map, List.length_range]
theorem namesB_len (cs : List Nat) (a : Nat) (z : Int) (n : Nat) : ((namesB cs a z n).map V.str).length = n := by
  unfold namesB
  rw [List.length_map, List.length_map, List.length_range]
def spNames : Sp := sp2 fun a b H Q => ∃ cell : Int, a = .int cell ∧ b = .int ((26 : Nat) : Int) ∧ ∀ H' q ns, Same H H' → NmAt H' q ns → NsOk ns → Q (.ref q) H'
section
variable {P : Program} {w : World} {K : PySem.W.Frag} {mg : Str → Option Value} {base : Heap}
/- _law_names: slots 0 _law_cell 1 _law_many 2 _law_letters 3 _law_size_here 4 _law_at 5 _law_common 6 _law_found 7 _law_j 8 _law_k -/
theorem sc_law_names : FnScope ["_law_cell", "_law_many", "_law_letters", "_law_size_here", "_law_at", "_law_common", "_law_found", "_law_j", "_law_k"] ["_law_cell", "_law_many"] (defScope s_law_names) := ⟨rfl, rfl, rfl, by decide +kernel, rfl, by decide +kernel, by decide +kernel⟩
theorem ok_law_names (T : Txt K mg) : C8.Cal P w K mg base 1 "_law_names" spNames [] := by
  refine mkCal (f_law_names T) (g_law_names T) sc_law_names (fun _ _ _ _ _ _ us hl => match us, hl with | [_, _], _ => rfl) (fun vs H Q E h => ?_) (fun vs H Q E h => ?_)
  · obtain ⟨a, b, rfl, _⟩ := sp2_len h
    rfl
  obtain ⟨a, b, rfl, h⟩ := sp2_len h
  intro cdv A outer s E hr
  have hu := hu_of hr
  obtain ⟨cell, rfl, rfl, k1⟩ := h
  refine ⟨_, (pss_cons (ps_set (i := 2) sc_law_names.nd rfl (by first | exact .inl rfl | exact .inr rfl) pe_str)
        (pss_cons (ps_set (i := 3) sc_law_names.nd rfl (by first | exact .inl rfl | exact .inr rfl) (pe_op op_mod (pv 0) pe_int))
        (pss_cons (ps_set (i := 4) sc_law_names.nd rfl (by first | exact .inl rfl | exact .inr rfl) (pe_op op_mod (pe_op op_fdiv (pv 0) pe_int) (pe_op op_add (pv 3) pe_int)))
        (pss_cons (ps_set (i := 5) sc_law_names.nd rfl (by first | exact .inl rfl | exact .inr rfl) (pe_join pe_str (pe_lc (own := [("_law_j", 7)]) rfl sc_law_names.nd (pi_range1 rfl (z_range T) (pa_cons (pv 3) pa_nil)) (blkOk_by (N := ["_law_cell", "_law_many", "_law_letters", "_law_size_here", "_law_at", "_law_common", "_law_found", "_law_j", "_law_k"]) (sc := defScope s_law_names) (by decide +kernel)) (fun _ _ _ _ _ => (pg_name (i := 7) sc_law_names.nd rfl (by first | exact .inl rfl | exact .inr rfl))) (fun _ _ _ _ _ => pts_nil) (fun _ _ _ _ _ => (pe_ix ix_str pe_str (pe_op op_mod (pe_op op_add (pe_op op_fdiv (pv 0) pe_int) (pv 7)) pe_int) (fun _ _ => rfl))))))
        (pss_cons (ps_set (i := 6) sc_law_names.nd rfl (by first | exact .inl rfl | exact .inr rfl) (pe_lc (own := [("_law_k", 8)]) rfl sc_law_names.nd (pi_range1 rfl (z_range T) (pa_cons (pv 1) pa_nil)) (blkOk_by (N := ["_law_cell", "_law_many", "_law_letters", "_law_size_here", "_law_at", "_law_common", "_law_found", "_law_j", "_law_k"]) (sc := defScope s_law_names) (by decide +kernel)) (fun _ _ _ _ _ => (pg_name (i := 8) sc_law_names.nd rfl (by first | exact .inl rfl | exact .inr rfl))) (fun _ _ _ _ _ => pts_nil) (fun _ _ _ _ _ => (pe_op op_add_str (pe_op op_add_str (pe_slice C8.sl_txt (pv 5) po_none (po_some (pv 4))) (pe_ix ix_str (pv 2) (pe_op op_mod (pe_op op_add (pe_op op_fdiv (pv 0) pe_int) (pe_op op_mul pe_int (pv 8))) pe_int) (fun _ _ => rfl))) (pe_slice C8.sl_txt (pv 5) (po_some (pv 4)) po_none)))))
        (pss_cons (ps_if (pt_cmpR op_eq (pe_op op_mod (pe_op op_fdiv (pv 0) pe_int) pe_int) pe_int (nomark _)) (pss_one (ps_ret (pv 6))) pss_nil)
        (pss_one (ps_ret (pe_lc (own := [("_law_k", 8)]) rfl sc_law_names.nd (pi_range1 rfl (z_range T) (pa_cons (pv 1) pa_nil)) (blkOk_by (N := ["_law_cell", "_law_many", "_law_letters", "_law_size_here", "_law_at", "_law_common", "_law_found", "_law_j", "_law_k"]) (sc := defScope s_law_names) (by decide +kernel)) (fun _ _ _ _ _ => (pg_name (i := 8) sc_law_names.nd rfl (by first | exact .inl rfl | exact .inr rfl))) (fun _ _ _ _ _ => pts_nil) (fun _ _ _ _ _ => (pe_op op_add_str (pe_ix (ixL (K := K) rfl) (pv 6) (pe_op op_sub (pv 8) (pe_op op_mod (pv 8) pe_int)) (fun _ _ => rfl)) (pe_op op_rep_str pe_str (pe_op op_mod (pv 8) pe_int))))))))))))), ?_⟩
  have s0 := Int.emod_nonneg cell (show (5 : Int) ≠ 0 by decide)
  have s1 := Int.emod_lt_of_pos cell (show (0 : Int) < 5 by decide)
  have a0 := Int.emod_nonneg (cell / 5) (show (cell % 5 + 1) ≠ 0 by omega)
  refine ⟨_, rfl, _, _, rfl, rfl, (by decide : (0 : Int) < 5), ?_⟩
  refine ⟨_, rfl, _, _, rfl, rfl, ⟨by decide, by decide⟩, _, rfl, _, _, rfl, rfl, _, _, rfl, rfl, (show (0 : Int) < cell % 5 + 1 by omega), ?_⟩
  refine ⟨⟨_, rfl⟩, _, rfl, cell % 5, rfl, by omega, by omega, fun D hD => ?_⟩
  obtain ⟨az, haz⟩ : ∃ az : Int, az = cell / 5 % (cell % 5 + 1) := ⟨_, rfl⟩
  obtain ⟨n, hn⟩ : ∃ n : Nat, n = (cell % 5).toNat := ⟨_, rfl⟩
  refine lc_range (n := (cell % 5).toNat) (fun i H' => Same H H' ∧ ∃ cs : List Nat, H' D = some (.lst ((cs.map fun c => SX.S [c]).map V.str)) ∧ cs.length = i ∧ ∀ c ∈ cs, c ∈ Q5) ⟨same_new hD, [], upd_same, rfl, fun c hc => by cases hc⟩ (fun i H' hi q => ?_) (fun H1 q => ?_)
  · obtain ⟨t1, cs, ht, hcl, hcq⟩ := q
    have m0 := Int.emod_nonneg (cell / 25 + ((0 : Int) + (i : Int))) (show (5 : Int) ≠ 0 by decide)
    have m1 := Int.emod_lt_of_pos (cell / 25 + ((0 : Int) + (i : Int))) (show (0 : Int) < 5 by decide)
    obtain ⟨c, hc, hv⟩ := at_q m0 m1
    refine ⟨rfl, lcY (iteT ⟨_, rfl, _, _, rfl, rfl, ⟨by decide, by decide⟩, _, rfl, _, _, rfl, rfl, _, _, rfl, rfl, (by decide : (0 : Int) < 5), _, _, c, rfl, rfl, le_size (by decide +kernel), hv, _, ht, ?_, same_put t1 hD, cs ++ [c], ?_, ?_, ?_⟩)⟩
    · rw [List.length_map, List.length_map]
      exact lt_size (by omega)
    · rw [upd_same, List.map_append, List.map_append]
      rfl
    · rw [List.length_append, hcl]
      rfl
    · intro x hx
      rcases List.mem_append.mp hx with z | z
      · exact hcq x z
      · rw [List.mem_singleton.mp z]
        exact hc
  obtain ⟨t1, cs, ht, hcl, hcq⟩ := q
  refine ⟨_, D, _, rfl, rfl, .inl (SqL.of ht), ?_, ?_⟩
  · rw [sum_ones, List.length_map]
    show cs.length + cs.length * 0 ≤ 16777216
    omega
  rw [join_S1]
  rw [← haz] at a0
  refine ⟨_, rfl, ((26 : Nat) : Int), rfl, by decide, by decide, fun D2 hD2 => ?_⟩
  have hsl : Txt.slice (SX.S cs) none (some (cell / 5 % (cell % 5 + 1))) = SX.S (cs.take az.toNat) := by rw [← haz]; exact SX.slice_to a0
  have hsr : Txt.slice (SX.S cs) (some (cell / 5 % (cell % 5 + 1))) none = SX.S (cs.drop az.toNat) := by rw [← haz]; exact SX.slice_from a0
  have hcz : (SX.S cs).length ≤ 100000 := by rw [SX.S_len]; omega
  refine lc_range (n := 26) (fun i H' => Same H1 H' ∧ H' D2 = some (.lst ((namesA cs az.toNat (cell / 125) i).map V.str))) ⟨same_new hD2, upd_same⟩ (fun i H' hi q => ?_) (fun H2 q => ?_)
  · obtain ⟨u1, hu1⟩ := q
    have hv := at_let (cell / 125) i
    have e1 : Txt.slice (SX.S cs) none (some (cell / 5 % (cell % 5 + 1))) ++ (⟨#[letC (cell / 125) i]⟩ : Str) = SX.S (cs.take az.toNat ++ [letC (cell / 125) i]) := by
      rw [hsl]
      exact SX.S_cat _ [_]
    have e2 : Txt.slice (SX.S cs) none (some (cell / 5 % (cell % 5 + 1))) ++ (⟨#[letC (cell / 125) i]⟩ : Str) ++ Txt.slice (SX.S cs) (some (cell / 5 % (cell % 5 + 1))) none = SX.S (nmL cs az.toNat (letC (cell / 125) i)) := by
      rw [e1, hsr]
      exact SX.S_cat _ _
    refine ⟨rfl, lcY (iteT ⟨_, rfl, _, rfl, _, rfl, _, rfl, le_size hcz, _, rfl, _, rfl, _, _, rfl, rfl, ⟨by decide, by decide⟩, _, rfl, _, _, rfl, rfl, .inl ⟨by decide, by decide⟩, _, _, rfl, rfl, _, _, rfl, rfl, (by decide : (0 : Int) < 26), _, _, letC (cell / 125) i, rfl, rfl, le_size (by decide +kernel), (by rw [Int.zero_add]; exact hv), _, _, rfl, rfl, ?_, _, rfl, _, rfl, _, rfl, _, rfl, le_size hcz, _, _, rfl, rfl, ?_, _, hu1, ?_, same_put u1 hD2, ?_⟩)⟩
    · rw [hsl, SX.S_len, List.length_take]
      exact le_size (by show min _ _ + 1 ≤ _; omega)
    · rw [e1, hsr, SX.S_len, SX.S_len, List.length_append, List.length_take, List.length_drop]
      exact le_size (by show min _ _ + 1 + _ ≤ _; omega)
    · rw [namesA_len]
      exact lt_size (by omega)
    · rw [upd_same, namesA_succ, e2]
  obtain ⟨u1, hu1⟩ := q
  refine ⟨_, rfl, _, _, rfl, rfl, ⟨by decide, by decide⟩, _, _, rfl, rfl, (by decide : (0 : Int) < 3), rfl, _, rfl, ?_⟩
  by_cases g : cell / 3250 % 3 = 0
  · exact propT (congrArg V.int g) ⟨_, rfl, k1 H2 D2 _ (t1.trans u1) hu1 (nsOkA hcq _ _)⟩
  · refine propF (fun e => g (V.int.inj e)) ?_
    refine ⟨_, rfl, ((26 : Nat) : Int), rfl, by decide, by decide, fun D3 hD3 => ?_⟩
    refine lc_range (n := 26) (fun i H' => Same H2 H' ∧ H' D3 = some (.lst ((namesB cs az.toNat (cell / 125) i).map V.str))) ⟨same_new hD3, upd_same⟩ (fun i H' hi q => ?_) (fun H3 q => ?_)
    · obtain ⟨w1, hw1⟩ := q
      have hz : (0 : Int) + (i : Int) = (i : Int) := Int.zero_add _
      have hix : (0 : Int) + (i : Int) - ((0 : Int) + (i : Int)) % 2 = ((i - i % 2 : Nat) : Int) := by omega
      have hat : atI ((namesA cs az.toNat (cell / 125) 26).map V.str) ((0 : Int) + (i : Int) - ((0 : Int) + (i : Int)) % 2) = some (V.str (SX.S (nmL cs az.toNat (letC (cell / 125) (i - i % 2))))) := by
        rw [hix]
        exact atI_nat (names_at (by omega))
      have hu3 := w1 _ _ hu1
      have hnl : (SX.S (nmL cs az.toNat (letC (cell / 125) (i - i % 2)))).length ≤ 6 := by
        rw [SX.S_len, nmL_len]
        omega
      refine ⟨rfl, lcY (iteT ⟨_, rfl, _, rfl, _, rfl, _, _, rfl, rfl, (by decide : (0 : Int) < 2), _, _, rfl, rfl, D2, _, _, _, rfl, rfl, SqL.of hu3, hat, _, rfl, _, _, rfl, rfl, (by decide : (0 : Int) < 2), _, _, rfl, rfl, ?_⟩)⟩
      by_cases go : i % 2 = 1
      · refine .inr ⟨by omega, _, _, rfl, rfl, ?_, _, hw1, ?_, same_put w1 hD3, ?_⟩
        · exact le_size (Nat.le_trans (Nat.add_le_add hnl (Nat.le_refl _)) (by decide +kernel))
        · rw [namesB_len]
          exact lt_size (by omega)
        · rw [upd_same, namesB_succ, ← SX.S_cat]
          unfold qs
          rw [if_pos go]
          rfl
      · refine .inl ⟨by omega, _, _, rfl, rfl, ?_, _, hw1, ?_, same_put w1 hD3, ?_⟩
        · exact le_size (Nat.le_trans (Nat.add_le_add hnl (Nat.le_refl _)) (by decide +kernel))
        · rw [namesB_len]
          exact lt_size (by omega)
        · rw [upd_same, namesB_succ, ← SX.S_cat]
          unfold qs
          rw [if_neg go]
          rfl
    obtain ⟨w1, hw1⟩ := q
    exact k1 H3 D3 _ ((t1.trans u1).trans w1) hw1 (nsOkB hcq _ _)
end
end SwK
set_option maxHeartbeats 8000000
/-! the builder: hands, the make -/
namespace SwK
open PySem PySem.Spec PyProof.Rows L2
/-- hands that are right -/
structure HsB (ns : List Str) (ks : List Kd) (cs : List Ch) (n : Nat) (hs : List Hn) : Prop where
  name : hs.map Hn.name = ns.take n
  ok : ∀ hd ∈ hs, BsOk ns ks hd.boxes ∧ RowsOk ks cs hd.boxes hd.name hd.rows
theorem mk_of {ns : List Str} {ks : List Kd} {cs : List Ch} {n : Nat} {hs : List Hn} (n1 : NsOk ns) (gk : GK ns ks) (kl : ks.length ≤ 4) (co : CsOk ns ks n cs) (h1 : 1 ≤ n) (h4 : n ≤ 4) (hb : HsB ns ks cs n hs) : MkOk ⟨ks, cs, hs⟩ ∧ MkOv ⟨ks, cs, hs⟩ := by
  have hl : hs.length = n := by
    have := congrArg List.length hb.name
    rw [List.length_map, List.length_take, n1.len] at this
    omega
  have hn : (hs.map Hn.name).Nodup := by
    rw [hb.name]
    exact List.Sublist.nodup (List.take_sublist _ _) n1.nd
  have ko := gk.ok n1 kl
  refine ⟨⟨ko, fun hd hm => ?_, hn, (by show hs.length ≤ 4; omega), (fun e => ?_), ?_, Nat.le_trans co.few (by decide), fun c hc => ?_⟩, ⟨gk.order n1 kl, fun hd hm => ?_, (by show hs.length ≤ 10; omega), Nat.le_trans co.few (by decide), fun c hc => (co.ends c hc).2.2⟩⟩
  · obtain ⟨b, r⟩ := hb.ok hd hm
    refine ⟨b.nd, Nat.le_succ_of_le b.few, fun p hp => gk.lev4 n1 kl (b.know p hp), r.ne, r.few, fun x hx => ?_, r.last⟩
    have := r.ok x hx
    cases x <;> exact this
  · have e : hs = [] := e
    rw [e] at hl
    have : (0 : Nat) = n := hl
    omega
  · show (cs.map Ch.name).Nodup
    rw [co.name]
    exact List.Sublist.nodup ((List.take_sublist _ _).trans (List.drop_sublist _ _)) n1.nd
  · obtain ⟨e1, e2, e3⟩ := co.ends c hc
    exact ⟨gk.lev4 n1 kl e3, (by show c.src ∈ hs.map Hn.name; rw [hb.name]; exact e1), (by show c.dst ∈ hs.map Hn.name; rw [hb.name]; exact e2)⟩
  · obtain ⟨b, r⟩ := hb.ok hd hm
    exact ⟨lookH_of (m := ⟨ks, cs, hs⟩) hn hm, b.nd, Nat.le_trans b.few (by decide), b.know, Nat.le_trans r.few (by decide)⟩
def spHands (K : PySem.W.Frag) : Sp := sp6 fun a b c d e g H Q => ∃ (sp : Addr) (is : List Int) (at' : Nat) (ks : List Kd) (cs : List Ch) (n : Nat) (np : Addr) (ns : List Str), a = .ref sp ∧ SqL K H sp (is.map V.int) ∧ b = .int (at' : Nat) ∧ at' ≤ 900 ∧ Im H c (kindsD ks) ∧ Im H d (.tup (cs.map Ch.d)) ∧ e = .int (n : Nat) ∧ 1 ≤ n ∧ n ≤ 4 ∧ g = .ref np ∧ NmAt H np ns ∧ NsOk ns ∧ GK ns ks ∧ ks.length ≤ 4 ∧ CsOk ns ks n cs ∧
  ∀ H' r m, Same H H' → Im H' (.ref r) (Mk0.d m) → MkOk m → MkOv m → Q (.ref r) H'
def spMake (K : PySem.W.Frag) : Sp := sp3 fun a b c H Q => ∃ (sp : Addr) (is : List Int) (at' : Nat) (np : Addr) (ns : List Str), a = .ref sp ∧ SqL K H sp (is.map V.int) ∧ b = .int (at' : Nat) ∧ at' ≤ 800 ∧ c = .ref np ∧ NmAt H np ns ∧ NsOk ns ∧
  ∀ H' r m, Same H H' → Im H' (.ref r) (Mk0.d m) → MkOk m → MkOv m → Q (.ref r) H'
section
variable {P : Program} {w : World} {K : PySem.W.Frag} {mg : Str → Option Value} {base : Heap}
/- _law_hands: slots 0 _law_script 1 _law_at 2 _law_kinds_here 3 _law_channels_here 4 _law_many 5 _law_names_here 6 _law_found 7 _law_k 8 _law_feed_here 9 _law_boxes_here -/
theorem sc_law_hands : FnScope ["_law_script", "_law_at", "_law_kinds_here", "_law_channels_here", "_law_many", "_law_names_here", "_law_found", "_law_k", "_law_feed_here", "_law_boxes_here"] ["_law_script", "_law_at", "_law_kinds_here", "_law_channels_here", "_law_many", "_law_names_here"] (defScope s_law_hands) := ⟨rfl, rfl, rfl, by decide +kernel, rfl, by decide +kernel, by decide +kernel⟩
theorem ok_law_hands (T : Txt K mg) (c_law_feed : C8.Cal P w K mg base 1 "_law_feed" (spFeed K) []) (c_law_boxes : C8.Cal P w K mg base 3 "_law_boxes" spBoxesB []) (c_law_rows : C8.Cal P w K mg base 43 "_law_rows" spRows []) : C8.Cal P w K mg base 44 "_law_hands" (spHands K) [] := by
  refine mkCal (f_law_hands T) (g_law_hands T) sc_law_hands (fun _ _ _ _ _ _ us hl => match us, hl with | [_, _, _, _, _, _], _ => rfl) (fun vs H Q E h => ?_) (fun vs H Q E h => ?_)
  · obtain ⟨a, b, c, d, e, g, rfl, _⟩ := sp6_len h
    rfl
  obtain ⟨a, b, c, d, e, g, rfl, h⟩ := sp6_len h
  intro cdv A outer s E hr
  have hu := hu_of hr
  obtain ⟨sp, is, at', ks, cs, n, np, ns, rfl, hsp, rfl, hat, hks, hcs, rfl, hn1, hn4, rfl, hnp, hns, gk, hkl, cok, k1⟩ := h
  refine ⟨_, (pss_cons (ps_set (i := 6) sc_law_hands.nd rfl (by first | exact .inl rfl | exact .inr rfl) (pe_lst pa_nil))
        (pss_cons (ps_for PassesOwn.never rfl (pi_range1 rfl (z_range T) (pa_cons (pv 4) pa_nil)) (pg_name (i := 7) sc_law_hands.nd rfl (by first | exact .inl rfl | exact .inr rfl)) (pss_cons (ps_set (i := 8) sc_law_hands.nd rfl (by first | exact .inl rfl | exact .inr rfl) (C8.pe_c c_law_feed hr (by omega) rfl (pa_cons (pv 0) (pa_cons (pe_op op_add (pv 1) (pv 7)) pa_nil))))
        (pss_cons (ps_set (i := 9) sc_law_hands.nd rfl (by first | exact .inl rfl | exact .inr rfl) (C8.pe_c c_law_boxes hr (by omega) rfl (pa_cons (pv 8) (pa_cons (pv 2) (pa_cons (pv 3) (pa_cons (pe_ix ix_list (pv 5) (pv 7) (fun _ _ => rfl)) (pa_cons (pv 5) pa_nil)))))))
        (pss_one (ps_expr (pe_bm PySem.F.plainAttrs_list PySem.F.slot_list_append PySem.F.type_list_append mt_append (pv 6) (pa_cons (pe_tup (pa_cons (pe_ix ix_list (pv 5) (pv 7) (fun _ _ => rfl)) (pa_cons (pv 9) (pa_cons (C8.pe_c c_law_rows hr (by omega) rfl (pa_cons (pv 8) (pa_cons (pv 2) (pa_cons (pv 3) (pa_cons (pe_ix ix_list (pv 5) (pv 7) (fun _ _ => rfl)) (pa_cons (pv 9) (pa_cons (pv 5) pa_nil))))))) pa_nil)))) pa_nil)))))))
        (pss_one (ps_ret (pe_tup (pa_cons (pv 2) (pa_cons (pv 3) (pa_cons (pe_callTy call_tuple_of rfl (z_tuple T) (by decide +kernel) (pa_cons (pv 6) pa_nil)) pa_nil)))))))), ?_⟩
  refine ⟨le_size (by show 0 ≤ 100000; decide), fun fl hfl => ?_⟩
  have s1 : Same H (upd H fl (.lst [])) := same_new hfl
  have efl : upd H fl (.lst []) fl = some (.lst []) := upd_same
  generalize upd H fl (.lst []) = H1 at s1 efl ⊢
  refine ⟨_, rfl, ((n : Nat) : Int), rfl, by omega, by omega, ?_⟩
  rw [Int.toNat_natCast]
  refine for_range (fun j σ H' => Same H H' ∧ (∃ (hs : List Hn) (acc : List V), H' fl = some (.lst acc) ∧ ImL H' acc (hs.map Hn.d) ∧ HsB ns ks cs j hs) ∧ ∃ (o7 o8 o9 : Option V), σ = [some (.ref sp), some (.int (at' : Nat)), some c, some d, some (.int (n : Nat)), some (.ref np), some (.ref fl), o7, o8, o9])
    ⟨s1, ⟨[], [], efl, .nil, ⟨rfl, fun hd h => by cases h⟩⟩, _, _, _, rfl⟩ ?_ ?_
  · rintro j σ H' hj ⟨t1, ⟨hs, acc, hacc, iacc, hb⟩, o7, o8, o9, rfl⟩
    rw [Int.zero_add]
    have hl26 := hns.len
    obtain ⟨nm, hnm⟩ : ∃ nm, ns[j]? = some nm := ⟨ns[j]'(by omega), by simp⟩
    have hnmV : atI (ns.map V.str) (j : Int) = some (V.str nm) := atI_nat (by rw [List.getElem?_map, hnm]; rfl)
    have hhl : hs.length = j := by
      have := congrArg List.length hb.name
      rw [List.length_map, List.length_take] at this
      omega
    refine ⟨_, rfl, _, rfl, _, rfl, _, _, rfl, rfl, sp, is, at' + j, rfl, sqL_same t1 hsp, rfl, by omega, fun H2 q s2 hq fd2 => ?_⟩
    have t2 := t1.trans s2
    refine ⟨_, rfl, _, rfl, _, rfl, _, rfl, _, rfl, np, _, _, _, rfl, rfl, SqL.of (t2 _ _ hnp), hnmV, _, rfl, q, ks, cs, nm, np, ns, rfl, fd2, hks.mono (Tk.of t2), hkl, hcs.mono (Tk.of t2), cok.few, (fun ch hc => (cok.ends ch hc).2.2), rfl, rfl, t2 _ _ hnp, hns, fun H3 r bs fb3 ibs bok => ?_⟩
    have s3 : Same H' H3 := FB.new s2 hq fb3
    have t3 := t1.trans s3
    have dok : DealOk ns ks cs bs := ⟨hns, gk.ok hns hkl, fun k hk => gk.lev4 hns hkl hk, cok.few, fun ch hc => (cok.ends ch hc).2.2, bok⟩
    refine ⟨_, rfl, .inl ⟨rfl, _, SqL.of (s3 _ _ hacc)⟩, _, rfl, _, rfl, np, _, _, _, rfl, rfl, SqL.of (t3 _ _ hnp), hnmV, _, rfl, _, rfl, _, rfl, _, rfl, _, rfl, _, rfl, np, _, _, _, rfl, rfl, SqL.of (t3 _ _ hnp), hnmV, _, rfl, _, rfl, q, np, ns, ks, cs, nm, bs, rfl, fb3.fd, hks.mono (Tk.of t3), hcs.mono (Tk.of t3), rfl, ibs, dok, rfl, t3 _ _ hnp, fun H4 r4 rows fb4 irows rok => ⟨le_size (by show 3 ≤ 100000; decide), fun tq htq => ?_⟩⟩
    have s4 : Same H' H4 := FB.new s2 hq (fb3.trans fb4)
    have s5 := same_new (o := .tup [.str nm, .ref r, .ref r4]) htq
    have h5 := s5 _ _ (s4 _ _ hacc)
    have hfl0 : H fl = none := hfl
    refine ⟨fl, _, _, rfl, rfl, h5, (by rw [iacc.length, List.length_map]; exact lt_size (by omega)), ?_⟩
    have tkp := tk_put (o := .lst (acc ++ [.ref tq])) h5 ntL
    refine ⟨same_put ((t1.trans s4).trans s5) hfl0, ⟨hs ++ [⟨nm, bs, rows⟩], _, upd_same, ?_, ⟨?_, fun hd hm => ?_⟩⟩, _, _, _, rfl⟩
    · rw [List.map_append]
      have i1 := (ibs.mono (fb4.tk fb3.fd))
      exact ((iacc.mono (Tk.of (s4.trans s5))).append (ImL.one (im_new htq (.cons (.str _) (.cons i1 (.cons irows .nil)))))).mono tkp
    · rw [List.map_append, hb.name, take_snoc hnm]
      rfl
    · rcases List.mem_append.mp hm with z | z
      · exact hb.ok hd z
      · rw [List.mem_singleton.mp z]
        exact ⟨bok, rok⟩
  · rintro σ H' ⟨t1, ⟨hs, acc, hacc, iacc, hb⟩, o7, o8, o9, rfl⟩
    obtain ⟨m1, m2⟩ := mk_of hns gk hkl cok hn1 hn4 hb
    refine ⟨_, rfl, _, rfl, _, rfl, fl, acc, rfl, .inl ⟨SqL.of hacc, fun t ht => ⟨le_size (by show 3 ≤ 100000; decide), fun r hr => ?_⟩⟩⟩
    have s2 := same_new (o := .tup acc) ht
    have s3 := same_new (o := .tup [c, d, .ref t]) hr
    exact k1 _ r ⟨ks, cs, hs⟩ ((t1.trans s2).trans s3) (im_new hr (.cons (hks.mono (Tk.of (t1.trans s2))) (.cons (hcs.mono (Tk.of (t1.trans s2))) (.cons (im_new ht iacc) .nil)))) m1 m2
/- _law_make: slots 0 _law_script 1 _law_at 2 _law_names_here 3 _law_kinds_here 4 _law_feed_here 5 _law_hands_here -/
theorem sc_law_make : FnScope ["_law_script", "_law_at", "_law_names_here", "_law_kinds_here", "_law_feed_here", "_law_hands_here"] ["_law_script", "_law_at", "_law_names_here"] (defScope s_law_make) := ⟨rfl, rfl, rfl, by decide +kernel, rfl, by decide +kernel, by decide +kernel⟩
theorem ok_law_make (T : Txt K mg) (c_law_feed : C8.Cal P w K mg base 1 "_law_feed" (spFeed K) []) (c_law_take : C8.Cal P w K mg base 1 "_law_take" spTake []) (c_law_kinds : C8.Cal P w K mg base 9 "_law_kinds" spKinds []) (c_law_channels : C8.Cal P w K mg base 3 "_law_channels" spChans []) (c_law_hands : C8.Cal P w K mg base 44 "_law_hands" (spHands K) []) : C8.Cal P w K mg base 45 "_law_make" (spMake K) [] := by
  refine mkCal (f_law_make T) (g_law_make T) sc_law_make (fun _ _ _ _ _ _ us hl => match us, hl with | [_, _, _], _ => rfl) (fun vs H Q E h => ?_) (fun vs H Q E h => ?_)
  · obtain ⟨a, b, c, rfl, _⟩ := sp3_len h
    rfl
  obtain ⟨a, b, c, rfl, h⟩ := sp3_len h
  intro cdv A outer s E hr
  have hu := hu_of hr
  obtain ⟨sp, is, at', np, ns, rfl, hsp, rfl, hat, rfl, hnp, hns, k1⟩ := h
  refine ⟨_, (pss_cons (ps_set (i := 3) sc_law_make.nd rfl (by first | exact .inl rfl | exact .inr rfl) (C8.pe_c c_law_kinds hr (by omega) rfl (pa_cons (C8.pe_c c_law_feed hr (by omega) rfl (pa_cons (pv 0) (pa_cons (pv 1) pa_nil))) (pa_cons (pv 2) pa_nil))))
        (pss_cons (ps_set (i := 4) sc_law_make.nd rfl (by first | exact .inl rfl | exact .inr rfl) (C8.pe_c c_law_feed hr (by omega) rfl (pa_cons (pv 0) (pa_cons (pe_op op_add (pv 1) pe_int) pa_nil))))
        (pss_cons (ps_set (i := 5) sc_law_make.nd rfl (by first | exact .inl rfl | exact .inr rfl) (pe_op op_add pe_int (C8.pe_c c_law_take hr (by omega) rfl (pa_cons (pv 4) (pa_cons pe_int pa_nil)))))
        (pss_one (ps_ret (C8.pe_c c_law_hands hr (by omega) rfl (pa_cons (pv 0) (pa_cons (pe_op op_add (pv 1) pe_int) (pa_cons (pv 3) (pa_cons (C8.pe_c c_law_channels hr (by omega) rfl (pa_cons (pv 4) (pa_cons (pv 3) (pa_cons (pv 2) (pa_cons (pv 5) pa_nil))))) (pa_cons (pv 5) (pa_cons (pv 2) pa_nil)))))))))))), ?_⟩
  refine ⟨_, rfl, _, rfl, sp, is, at', rfl, hsp, rfl, by omega, fun H1 q s1 hq fd1 => ⟨_, rfl, q, np, ns, rfl, fd1, rfl, s1 _ _ hnp, hns, fun H2 r ks fb2 iks gk hkl => ?_⟩⟩
  have t2 : Same H H2 := FB.new s1 hq fb2
  refine ⟨_, rfl, _, rfl, _, _, rfl, rfl, sp, is, at' + 1, rfl, sqL_same t2 hsp, rfl, by omega, fun H3 q3 s3 hq3 fd3 => ?_⟩
  refine ⟨_, rfl, q3, 4, rfl, fd3, rfl, by decide, by decide, fun H4 d4 p4 q4 b4 => ⟨_, _, rfl, rfl, ?_⟩⟩
  obtain ⟨n, rfl⟩ : ∃ n : Nat, d4 = (n : Int) := ⟨d4.toNat, by omega⟩
  have s4 : Same H2 H4 := FB.new s3 hq3 b4
  have t4 := t2.trans s4
  refine ⟨_, rfl, _, rfl, _, _, rfl, rfl, _, rfl, _, rfl, _, rfl, _, rfl, _, rfl, q3, ks, np, ns, 1 + n, rfl, b4.fd, iks.mono (Tk.of s4), hkl, rfl, t4 _ _ hnp, hns, rfl, by omega, by omega, fun H5 r5 cs b5 ics cok => ?_⟩
  have s5 : Same H2 H5 := FB.new s3 hq3 (b4.trans b5)
  have t5 := t2.trans s5
  exact ⟨_, rfl, _, rfl, sp, is, at' + 2, ks, cs, 1 + n, np, ns, rfl, sqL_same t5 hsp, rfl, by omega, iks.mono (Tk.of s5), ics, rfl, by omega, by omega, rfl, t5 _ _ hnp, hns, gk, hkl, cok, fun H6 r6 m s6 im mo mv => k1 H6 r6 m (t5.trans s6) im mo mv⟩
end
end SwK
set_option maxHeartbeats 8000000
/-! two houses are alike -/
namespace SwK
open PySem PySem.Spec PyProof.Rows L2
theorem neF {x : V} {A B : Prop} (b : B) : if (!decide (x = x)) = true then A else B := by
  rw [decide_eq_true rfl]
  exact iteF b
theorem eqS_stand {K : PySem.W.Frag} {H : Hp} {ks : List Kd} {Γ : List (Str × Str)} {a b p q : Addr} {n : Int} {kvs lvs : List (Key × V)} {ρ : List (Str × Da)} (he : EnvT ks Γ ρ) (e1 : H a = some (.tup [.int n, .ref p])) (e2 : H b = some (.tup [.int n, .ref q])) (d1 : H p = some (.dK kvs)) (d2 : H q = some (.dK lvs)) (k1 : KvI H kvs ρ) (k2 : KvI H lvs ρ) :
    EqS K H (EqX K H 12) (.ref a) (.ref b) := by
  refine .inr (.inl ⟨a, b, _, _, rfl, rfl, SqT.of e1, SqT.of e2, .cons (.inl ⟨rfl, rfl⟩) (.cons ?_ .nil)⟩)
  have hnd : (ρ.map (·.1)).Nodup := by rw [he.1]; exact he.2.1
  exact .inr (eqS_kv (rd_of d1) (rd_of d2) k1 k2 hnd fun p hp => (he.dp p hp).mono (by decide))
def spAlike (K : PySem.W.Frag) : Sp := sp3 fun a b c H Q => ∃ τ τp ln m mp ov pp st, Im H a (Mk0.d m) ∧ b = .ref mp ∧ c = .ref pp ∧ MkOk m ∧ WT m st ∧ Sz m 1000 st ∧ MixedAt K H τ mp ov m st ∧ PlainAt K H τp ln pp m st ∧ ∀ H', Same H H' → Q (.bl true) H'
section
variable {P : Program} {w : World} {K : PySem.W.Frag} {mg : Str → Option Value} {base : Heap}
/- _law_alike: slots 0 _law_first 1 _law_mixed 2 _law_plain 3 _law_hand 4 _law_h 5 _law_channel 6 _law_letters 7 _law_value -/
theorem sc_law_alike : FnScope ["_law_first", "_law_mixed", "_law_plain", "_law_hand", "_law_h", "_law_channel", "_law_letters", "_law_value"] ["_law_first", "_law_mixed", "_law_plain"] (defScope s_law_alike) := ⟨rfl, rfl, rfl, by decide +kernel, rfl, by decide +kernel, by decide +kernel⟩
theorem ok_law_alike (T : Txt K mg) (c_Mixed_make_of : C8.Met P w K mg base 1 (C_Mixed K) "make_of" (spMakeOf K) []) (c_Mixed_stand : C8.Met P w K mg base 1 (C_Mixed K) "stand" (spStand K) []) (c_Mixed_told : C8.Met P w K mg base 1 (C_Mixed K) "told" (spTold K) []) (c_Mixed_count : C8.Met P w K mg base 1 (C_Mixed K) "count" (spCount K) []) (c_Mixed_letters : C8.Met P w K mg base 1 (C_Mixed K) "letters" (spLetters K) [])
    (c_Plain_stand : C8.Met P w K mg base 2 (C_Plain K) "stand" (spPStand K) []) (c_Plain_told : C8.Met P w K mg base 2 (C_Plain K) "told" (spPTold K) []) (c_Plain_count : C8.Met P w K mg base 2 (C_Plain K) "count" (spPCount K) []) (c_Plain_letters : C8.Met P w K mg base 1 (C_Plain K) "letters" (spPLetters K) []) : C8.Cal P w K mg base 3 "_law_alike" (spAlike K) [] := by
  refine mkCal (f_law_alike T) (g_law_alike T) sc_law_alike (fun _ _ _ _ _ _ us hl => match us, hl with | [_, _, _], _ => rfl) (fun vs H Q E h => ?_) (fun vs H Q E h => ?_)
  · obtain ⟨a, b, c, rfl, _⟩ := sp3_len h
    rfl
  obtain ⟨a, b, c, rfl, h⟩ := sp3_len h
  intro cdv A outer s E hr
  have hu := hu_of hr
  obtain ⟨τ, τp, ln, m, mp, ov, pp, st, hm, rfl, rfl, ok, wt, sz, hM, hP, k1⟩ := h
  obtain ⟨fa, f1, f2, f3, rfl, ef, j1, j2, j3⟩ := im3 hm
  obtain ⟨ha, hxs, rfl, eh, ih⟩ := im_tup j3
  obtain ⟨ca, cxs, rfl, ec, ic⟩ := im_tup j2
  obtain ⟨dxM, hpM, rpM, hkM, rkM, eM, _⟩ := hM.obj
  obtain ⟨dxP, mvP, hpP, lpP, hkP, lkP, eP, _⟩ := hP.obj
  refine ⟨_, (pss_cons (ps_for PassesOwn.never rfl (pi_tup (pe_ix ix_tup (pv 0) pe_int (fun _ _ => rfl))) (pg_name (i := 3) sc_law_alike.nd rfl (by first | exact .inl rfl | exact .inr rfl)) (pss_cons (ps_set (i := 4) sc_law_alike.nd rfl (by first | exact .inl rfl | exact .inr rfl) (pe_ix ix_tup (pv 3) pe_int (fun _ _ => rfl)))
        (pss_cons (ps_if (PW.pt (pw_or (pt_cmpR op_ne (C8.pe_mt c_Mixed_make_of hr (by omega) (pv 1) (pa_cons (pv 4) pa_nil)) pe_int (nomark _)) (pw_or (pt_val (pe_callB call_isi rfl (z_isinstance T) (by decide +kernel) (pa_cons (C8.pe_mt c_Mixed_make_of hr (by omega) (pv 1) (pa_cons (pv 4) pa_nil)) (pa_cons (pe_bltn (v := .ty "bool") rfl (z_bool T) (by decide +kernel) rfl) pa_nil)))) (pw_or1 (pt_cmpR (op_neX hr.units) (C8.pe_mt c_Mixed_stand hr (by omega) (pv 1) (pa_cons (pv 4) pa_nil)) (C8.pe_mt c_Plain_stand hr (by omega) (pv 2) (pa_cons (pv 4) pa_nil)) (nomark _)))))) (pss_one (ps_ret pe_bl)) pss_nil)
        (pss_one (ps_if (PW.pt (pw_or (pt_cmpR (op_neX hr.units) (C8.pe_mt c_Mixed_told hr (by omega) (pv 1) (pa_cons (pv 4) pa_nil)) (C8.pe_mt c_Plain_told hr (by omega) (pv 2) (pa_cons (pv 4) pa_nil)) (nomark _)) (pw_or1 (pt_cmpR op_ne (C8.pe_mt c_Mixed_count hr (by omega) (pv 1) (pa_cons (pv 4) pa_nil)) (C8.pe_mt c_Plain_count hr (by omega) (pv 2) (pa_cons (pv 4) pa_nil)) (nomark _))))) (pss_one (ps_ret pe_bl)) pss_nil)))))
        (pss_cons (ps_for PassesOwn.never rfl (pi_tup (pe_ix ix_tup (pv 0) pe_int (fun _ _ => rfl))) (pg_name (i := 5) sc_law_alike.nd rfl (by first | exact .inl rfl | exact .inr rfl)) (pss_cons (ps_set (i := 6) sc_law_alike.nd rfl (by first | exact .inl rfl | exact .inr rfl) (C8.pe_mt c_Mixed_letters hr (by omega) (pv 1) (pa_cons (pe_ix ix_tup (pv 5) pe_int (fun _ _ => rfl)) pa_nil)))
        (pss_one (ps_if (PW.pt (pw_or (pt_not (pt_val (pe_callB call_isi rfl (z_isinstance T) (by decide +kernel) (pa_cons (pv 6) (pa_cons (pe_bltn (v := .ty "list") rfl (z_list T) (by decide +kernel) rfl) pa_nil))))) (pw_or1 (pt_cmpR (op_neX hr.units) (pv 6) (pe_lc (own := [("_law_value", 7)]) rfl sc_law_alike.nd (pi_list (C8.pe_mt c_Plain_letters hr (by omega) (pv 2) (pa_cons (pe_ix ix_tup (pv 5) pe_int (fun _ _ => rfl)) pa_nil))) (blkOk_by (N := ["_law_first", "_law_mixed", "_law_plain", "_law_hand", "_law_h", "_law_channel", "_law_letters", "_law_value"]) (sc := defScope s_law_alike) (by decide +kernel)) (fun _ _ _ _ _ => (pg_name (i := 7) sc_law_alike.nd rfl (by first | exact .inl rfl | exact .inr rfl))) (fun _ _ _ _ _ => pts_nil) (fun _ _ _ _ _ => (pe_tup (pa_cons pe_int (pa_cons (pv 7) pa_nil))))) (nomark _))))) (pss_one (ps_ret pe_bl)) pss_nil))))
        (pss_one (ps_ret pe_bl)))), ?_⟩
  refine ⟨_, rfl, fa, _, _, _, rfl, rfl, SqT.of ef, at2, ha, rfl, ⟨_, SqT.of eh⟩, for_tup (xs := hxs) (fun j σ H' => Same H H' ∧ ∃ o3 o4, σ = [some (.ref fa), some (.ref mp), some (.ref pp), o3, o4, none, none, none]) ⟨Same.refl _, _, _, rfl⟩ (fun j σ H' _ z => SqT.of (z.1 _ _ eh)) ?_ ?_⟩
  · rintro j x σ H1 hx ⟨s1, o3, o4, rfl⟩
    obtain ⟨hd, hhd, ix⟩ := iml_map ih hx
    have hhm := List.mem_of_getElem? hhd
    obtain ⟨qa, y1, y2, y3, rfl, eqa, i1, i2, i3⟩ := im3 (ix.mono (Tk.of s1))
    cases im_str i1
    have he := wt.env hd hhm
    have hM1 := hM.same s1
    refine ⟨_, rfl, qa, _, _, _, rfl, rfl, SqT.of eqa, at0, ?_⟩
    refine ⟨_, rfl, mp, dxM, _, rfl, s1 _ _ eM, n_Mixed_make_of, _, rfl, τ, m, mp, ov, st, hd, rfl, rfl, hhm, hM1, rfl, _, rfl, neF ?_⟩
    refine ⟨_, rfl, mp, dxM, _, rfl, s1 _ _ eM, n_Mixed_make_of, _, rfl, τ, m, mp, ov, st, hd, rfl, rfl, hhm, hM1, _, _, _, _, false, rfl, .ty "bool", .base (.int 1), kit_ty (by decide +kernel), _, rfl, iteF ?_⟩
    refine ⟨_, rfl, mp, dxM, _, rfl, s1 _ _ eM, n_Mixed_stand, _, rfl, τ, m, mp, ov, st, hd, rfl, rfl, hhm, hM1, fun H2 r q kvs s2 _ er eq kv => ?_⟩
    have s12 := s1.trans s2
    refine ⟨_, rfl, pp, dxP, _, rfl, s12 _ _ eP, n_Plain_stand, _, rfl, τp, ln, m, pp, st, hd, rfl, rfl, hhm, hP.same s12, fun H3 r2 q2 kvs2 s3 _ er2 eq2 kv2 => ?_⟩
    have s13 := s12.trans s3
    refine ⟨12, by decide, eqS_stand he (s3 _ _ er) er2 (s3 _ _ eq) eq2 (kv.mono (Tk.of s3)) kv2, _, rfl, iteF ?_⟩
    refine ⟨_, rfl, mp, dxM, _, rfl, s13 _ _ eM, n_Mixed_told, _, rfl, τ, m, mp, ov, st, hd, rfl, rfl, hhm, hM.same s13, fun H4 q4 xs4 s4 _ e4 i4 => ?_⟩
    have s14 := s13.trans s4
    refine ⟨_, rfl, pp, dxP, _, rfl, s14 _ _ eP, n_Plain_told, _, rfl, τp, ln, m, pp, st, hd, rfl, rfl, hhm, hP.same s14, fun H5 q5 xs5 s5 _ e5 i5 => ?_⟩
    have s15 := s14.trans s5
    refine ⟨12, by decide, eqS_lst (s5 _ _ e4) e5 (i4.mono (Tk.of s5)) i5 (fun d hd' => by
        obtain ⟨i, rfl, _⟩ := wt.notes hd hhm d hd'
        trivial), _, rfl, iteF ?_⟩
    refine ⟨_, rfl, mp, dxM, _, rfl, s15 _ _ eM, n_Mixed_count, _, rfl, τ, m, mp, ov, st, hd, rfl, rfl, hhm, hM.same s15, ?_⟩
    exact ⟨_, rfl, pp, dxP, _, rfl, s15 _ _ eP, n_Plain_count, _, rfl, τp, ln, m, pp, st, hd, rfl, rfl, hhm, hP.same s15, rfl, _, rfl, neF ⟨s15, _, _, rfl⟩⟩
  rintro σ H1 ⟨s1, o3, o4, rfl⟩
  refine ⟨_, rfl, fa, _, _, _, rfl, rfl, SqT.of (s1 _ _ ef), at1, ca, rfl, ⟨_, SqT.of (s1 _ _ ec)⟩, for_tup (xs := cxs) (fun j σ H' => Same H H' ∧ ∃ o3 o4 o5 o6, σ = [some (.ref fa), some (.ref mp), some (.ref pp), o3, o4, o5, o6, none]) ⟨s1, _, _, _, _, rfl⟩ (fun j σ H' _ z => SqT.of (z.1 _ _ ec)) ?_ ?_⟩
  · rintro j x σ H2 hx ⟨s2, o3, o4, o5, o6, rfl⟩
    obtain ⟨ch, hch, ix⟩ := iml_map ic hx
    have hcm := List.mem_of_getElem? hch
    obtain ⟨qa, y1, y2, y3, y4, rfl, eqa, i1, i2, i3, i4⟩ := im4 (ix.mono (Tk.of s2))
    cases im_str i1
    have hrl := sz.row ch hcm
    refine ⟨_, rfl, mp, dxM, _, rfl, s2 _ _ eM, n_Mixed_letters, _, rfl, qa, _, _, _, rfl, rfl, SqT.of eqa, at0, τ, m, mp, ov, st, ch, rfl, rfl, hcm, hM.same s2, fun H3 q3 xs3 s3 _ e3 ix3 => ?_⟩
    have s23 := s2.trans s3
    refine ⟨_, rfl, _, _, _, _, true, rfl, .ty "list", .base (.lst e3), kit_ty (by decide +kernel), _, rfl, iteF ?_⟩
    refine ⟨_, rfl, _, rfl, pp, dxP, _, rfl, s23 _ _ eP, n_Plain_letters, _, rfl, qa, _, _, _, rfl, rfl, SqT.of (s3 _ _ eqa), at0, τp, ln, m, pp, st, ch, rfl, rfl, hcm, hP.same s23, fun H4 q4 xs4 s4 _ e4 ix4 => ⟨q4, rfl, ⟨_, SqL.of e4⟩, fun D hD => lc_list (K := K) (a := q4) (xs := xs4) (fun i H5 => Same H4 H5 ∧ ∃ acc, H5 D = some (.lst acc) ∧ ImL H5 acc (((st.row ch.name).take i).map ltD)) ⟨same_new hD, [], upd_same, .nil⟩ (fun i H5 _ z => SqL.of (z.1 _ _ e4)) (fun i x H5 hx5 z => ?_) (fun H5 z => ?_)⟩⟩
    · obtain ⟨u1, acc, hacc, iacc⟩ := z
      obtain ⟨d, hd5, id5⟩ := ix4.get' hx5
      have hi := (List.getElem?_eq_some_iff.mp hd5).1
      refine ⟨rfl, lcY (iteT ⟨_, rfl, le_size (by show 2 ≤ 100000; decide), fun tq htq => ?_⟩)⟩
      have w1 : Same H5 (upd H5 tq (.tup [.int 1, x])) := same_new htq
      refine ⟨acc, w1 _ _ hacc, ?_, same_put (u1.trans w1) hD, _, upd_same, ?_⟩
      · rw [iacc.length, List.length_map, List.length_take]
        exact lt_size (by omega)
      · rw [take_snoc hd5, List.map_append]
        exact ((iacc.mono (Tk.of w1)).append (ImL.one (im_new htq (.cons (.int _) (.cons (id5.mono (Tk.of u1)) .nil))))).mono (tk_put (w1 _ _ hacc) ntL)
    · obtain ⟨u1, acc, hacc, iacc⟩ := z
      rw [ix4.length, List.take_length] at iacc
      have s35 := s4.trans u1
      refine ⟨12, by decide, eqS_lst (s35 _ _ e3) hacc (ix3.mono (Tk.of s35)) iacc (fun d hd' => ?_), _, rfl, iteF ⟨s23.trans s35, _, _, _, _, rfl⟩⟩
      obtain ⟨d0, hd0, rfl⟩ := List.mem_map.mp hd'
      exact (ltD_dp (vt_dp9 (wt.row ch hcm d0 hd0))).mono (by decide)
  · rintro σ H2 ⟨s2, o3, o4, o5, o6, rfl⟩
    exact k1 _ s2
end
end SwK
set_option maxHeartbeats 8000000
/-! three houses side by side -/
namespace SwK
open PySem PySem.Spec PyProof.Rows L2
/-- what was made is fresh -/
theorem mk_same {H : Hp} {x dx : Addr} {o u : HO} (h1 : H x = none) (h2 : H dx = none) (n : dx ≠ x) : Same H (upd (upd H dx u) x o) :=
  (same_new h2).trans (same_new (by rw [upd_ne (Ne.symm n)]; exact h1))
theorem Bt.same1 {H H1 H' : Hp} {x : Addr} (s : Same H H1) (h : H x = none) (b : Bt (fun a => a = x) H1 H') : Same H H' := fun a o e => b a o (s a o e) fun q => by
  have q : a = x := q
  rw [q, h] at e
  cases e
/-- tags of a house that was made behind H -/
theorem tags_new {H H1 : Hp} {x : Addr} {τ : Tags} (s : Same H H1) (h : H x = none) (t : ∀ a u, τ a = some u → a = x ∨ H1 a = none) : ∀ a, τ a ≠ none → H a = none := fun a n => by
  cases e : τ a with
  | none => exact absurd e n
  | some u =>
    rcases t a u e with q | q
    · rw [q]
      exact h
    · exact new_old s q
theorem own_live {H : Hp} {τ : Tags} (w : OwnAt H τ) {a : Addr} (h : τ a ≠ none) : H a ≠ none := fun e => h (w.none e)
/-- three houses of one make, over H0 -/
structure LI (K : PySem.W.Frag) (H0 H : Hp) (τ υ τp : Tags) (ln : Str → Addr) (mp op pp ov : Addr) (m : Mk0) (s1 s2 s3 : MSt) : Prop where
  sm : Same H0 H
  mx : MixedAt K H τ mp ov m s1
  my : MixedAt K H υ op ov m s2
  pl : PlainAt K H τp ln pp m s3
  f1 : ∀ a, τ a ≠ none → H0 a = none
  f2 : ∀ a, υ a ≠ none → H0 a = none
  f3 : ∀ a, τp a ≠ none → H0 a = none
  d1 : ∀ a, τ a ≠ none → υ a = none
  d2 : ∀ a, τ a ≠ none → τp a = none
  d3 : ∀ a, υ a ≠ none → τp a = none
section
variable {K : PySem.W.Frag} {H0 H H' : Hp} {τ υ τp : Tags} {ln : Str → Addr} {mp op pp ov : Addr} {m : Mk0} {s1 s2 s3 : MSt}
theorem none_of {τ υ : Tags} (d : ∀ a, τ a ≠ none → υ a = none) {a : Addr} (h : υ a ≠ none) : τ a = none := by
  cases e : τ a with
  | none => rfl
  | some t => exact absurd (d a (by rw [e]; exact fun z => nomatch z)) h
theorem LI.same (x : LI K H0 H τ υ τp ln mp op pp ov m s1 s2 s3) (s : Same H H') : LI K H0 H' τ υ τp ln mp op pp ov m s1 s2 s3 :=
  ⟨x.sm.trans s, x.mx.same s, x.my.same s, x.pl.same s, x.f1, x.f2, x.f3, x.d1, x.d2, x.d3⟩
theorem LI.other (x : LI K H0 H τ υ τp ln mp op pp ov m s1 s2 s3) {q : Addr} (b : Bt (fun a => a = q) H H') (k : Tk H H') (h0 : H0 q = none) (t1 : τ q = none) (t2 : υ q = none) (t3 : τp q = none) : LI K H0 H' τ υ τp ln mp op pp ov m s1 s2 s3 := by
  refine ⟨fun a o e => b a o (x.sm a o e) fun z => ?_, x.mx.other b (fun a e => ?_) k, x.my.other b (fun a e => ?_) k, x.pl.other b (fun a e => ?_) k, x.f1, x.f2, x.f3, x.d1, x.d2, x.d3⟩
  · have z : a = q := z
    rw [z, h0] at e
    cases e
  · have e : a = q := e
    rw [e]
    exact t1
  · have e : a = q := e
    rw [e]
    exact t2
  · have e : a = q := e
    rw [e]
    exact t3
/-- what is fresh in H has no tags -/
theorem LI.fresh (x : LI K H0 H τ υ τp ln mp op pp ov m s1 s2 s3) {q : Addr} (h : H q = none) : H0 q = none ∧ τ q = none ∧ υ q = none ∧ τp q = none :=
  ⟨new_old x.sm h, x.mx.own.none h, x.my.own.none h, x.pl.own.none h⟩
theorem bt_same {τ : Tags} (f : ∀ a, τ a ≠ none → H0 a = none) (s : Same H0 H) (b : Bt (fun a => τ a ≠ none) H H') : Same H0 H' := fun a o e => b a o (s a o e) fun z => by
  have z : τ a ≠ none := z
  rw [f a z] at e
  cases e
theorem own_tk {τ : Tags} (w : OwnAt H τ) (b : Bt (fun a => τ a ≠ none) H H') : Tk H H' := b.tk fun a o f e => by
  have f : τ a ≠ none := f
  cases e1 : τ a with
  | none => exact absurd e1 f
  | some t =>
    obtain ⟨o', e2, n⟩ := w a t e1
    rw [e] at e2
    cases e2
    exact n
theorem ext_new {τ τ' : Tags} (x : ExtT H τ τ') {a : Addr} (h : τ' a ≠ none) : τ a ≠ none ∨ H a = none := by
  cases e : τ' a with
  | none => exact absurd e h
  | some t =>
    rcases x.new a t e with q | q
    · exact .inl (by rw [q]; exact fun z => nomatch z)
    · exact .inr q
/-- the first house has stepped -/
theorem LI.step1 (x : LI K H0 H τ υ τp ln mp op pp ov m s1 s2 s3) {τ' : Tags} {s1' : MSt} (e : ExtT H τ τ') (b : Bt (fun a => τ a ≠ none) H H') (y : MixedAt K H' τ' mp ov m s1') : LI K H0 H' τ' υ τp ln mp op pp ov m s1' s2 s3 := by
  have k := own_tk x.mx.own b
  refine ⟨bt_same x.f1 x.sm b, y, x.my.other b x.d1 k, x.pl.other b x.d2 k, fun a h => ?_, x.f2, x.f3, fun a h => ?_, fun a h => ?_, x.d3⟩
  · rcases ext_new e h with q | q
    · exact x.f1 a q
    · exact new_old x.sm q
  · rcases ext_new e h with q | q
    · exact x.d1 a q
    · exact x.my.own.none q
  · rcases ext_new e h with q | q
    · exact x.d2 a q
    · exact x.pl.own.none q
theorem LI.step2 (x : LI K H0 H τ υ τp ln mp op pp ov m s1 s2 s3) {υ' : Tags} {s2' : MSt} (e : ExtT H υ υ') (b : Bt (fun a => υ a ≠ none) H H') (y : MixedAt K H' υ' op ov m s2') : LI K H0 H' τ υ' τp ln mp op pp ov m s1 s2' s3 := by
  have k := own_tk x.my.own b
  refine ⟨bt_same x.f2 x.sm b, x.mx.other b (fun a h => none_of x.d1 h) k, y, x.pl.other b x.d3 k, x.f1, fun a h => ?_, x.f3, fun a h => ?_, x.d2, fun a h => ?_⟩
  · rcases ext_new e h with q | q
    · exact x.f2 a q
    · exact new_old x.sm q
  · cases z : υ' a with
    | none => rfl
    | some t =>
      rcases e.new a t z with q | q
      · rw [x.d1 a h] at q
        cases q
      · exact absurd (x.mx.own.none q) h
  · rcases ext_new e h with q | q
    · exact x.d3 a q
    · exact x.pl.own.none q
theorem LI.step3 (x : LI K H0 H τ υ τp ln mp op pp ov m s1 s2 s3) {s3' : MSt} (b : Bt (fun a => τp a ≠ none) H H') (y : PlainAt K H' τp ln pp m s3') : LI K H0 H' τ υ τp ln mp op pp ov m s1 s2 s3' := by
  have k := own_tk x.pl.own b
  exact ⟨bt_same x.f3 x.sm b, x.mx.other b (fun a h => none_of x.d2 h) k, x.my.other b (fun a h => none_of x.d3 h) k, y, x.f1, x.f2, x.f3, x.d1, x.d2, x.d3⟩
/-- a feed that no house has -/
structure FF (H0 H : Hp) (τ υ τp : Tags) (fp : Addr) : Prop where
  fd : Feed H fp
  h0 : H0 fp = none
  t1 : τ fp = none
  t2 : υ fp = none
  t3 : τp fp = none
theorem ext_none {τ τ' : Tags} (x : ExtT H τ τ') {a : Addr} (h : τ a = none) (l : H a ≠ none) : τ' a = none := by
  cases e : τ' a with
  | none => rfl
  | some t =>
    rcases x.new a t e with q | q
    · rw [h] at q
      cases q
    · exact absurd q l
theorem Feed.live {fp : Addr} (h : Feed H fp) : H fp ≠ none := fun e => by
  obtain ⟨x, y, e', _⟩ := h
  rw [e] at e'
  cases e'
theorem Feed.bt {F : Addr → Prop} {fp : Addr} (h : Feed H fp) (b : Bt F H H') (n : ¬ F fp) : Feed H' fp := by
  obtain ⟨x, y, e, q⟩ := h
  exact ⟨x, y, b _ _ e n, q⟩
end
/-- other houses' halves: what is left to change -/
def CI (K : PySem.W.Frag) (H0 H : Hp) (τ υ τp : Tags) (ln : Str → Addr) (mp op pp ov : Addr) (dxo : Addr) (hp : Addr) (rp : V) (hk : List (Key × V)) (m : Mk0) (st : MSt) (j : Nat) : Prop :=
  Same H0 H ∧ MixedAt K H τ mp ov m st ∧ PlainAt K H τp ln pp m st ∧ H op = some (.ins (C_Mixed K) dxo (A_Mixed (.ref ov) (.ref hp) rp)) ∧ H hp = some (.dK hk) ∧ ∀ i hd, m.hands[i]? = some hd → j ≤ i → ∃ a, valV hk (Sum.inr hd.name) = some (.ref a) ∧ HalfAt K H υ hd.name a (st.hand hd.name)
theorem CI.same {K : PySem.W.Frag} {H0 H H' : Hp} {τ υ τp : Tags} {ln : Str → Addr} {mp op pp ov dxo hp : Addr} {rp : V} {hk : List (Key × V)} {m : Mk0} {st : MSt} {j : Nat} (s : Same H H') (x : CI K H0 H τ υ τp ln mp op pp ov dxo hp rp hk m st j) : CI K H0 H' τ υ τp ln mp op pp ov dxo hp rp hk m st j := by
  obtain ⟨x1, x2, x3, x4, x5, x6⟩ := x
  refine ⟨x1.trans s, x2.same s, x3.same s, s _ _ x4, s _ _ x5, fun i hd e hj => ?_⟩
  obtain ⟨a, e1, e2⟩ := x6 i hd e hj
  exact ⟨a, e1, half_same e2 s⟩
theorem CI.next {K : PySem.W.Frag} {H0 H H' : Hp} {τ υ τp : Tags} {ln : Str → Addr} {mp op pp ov dxo hp : Addr} {rp : V} {hk : List (Key × V)} {m : Mk0} {st : MSt} {j : Nat} {hd : Hn} {ha : Addr} {C : Addr} {dxh : Addr} {fs : List (Str × V)} (ok : MkOk m)
    (f2 : ∀ a, υ a ≠ none → H0 a = none) (d1 : ∀ a, τ a ≠ none → υ a = none) (d3 : ∀ a, υ a ≠ none → τp a = none) (t1 : υ op = some (tgI 0)) (t2 : υ hp = some (tgI 1))
    (x : CI K H0 H τ υ τp ln mp op pp ov dxo hp rp hk m st j) (hj : m.hands[j]? = some hd) (ht : υ ha = some (3, hd.name)) (hi : H ha = some (.ins C dxh fs)) (b : Bt (fun a => a = ha) H H') : CI K H0 H' τ υ τp ln mp op pp ov dxo hp rp hk m st (j + 1) := by
  obtain ⟨x1, x2, x3, x4, x5, x6⟩ := x
  have hn : υ ha ≠ none := by rw [ht]; exact fun z => nomatch z
  have k : Tk H H' := b.tk fun a o e e' => by
    have e : a = ha := e
    rw [e, hi] at e'
    cases e'
    exact ntI
  have bt : BtT υ (fun t => t = (3, hd.name)) H H' := fun a o e n => b a o e fun z => by
    have z : a = ha := z
    rw [z] at n
    exact n _ ht rfl
  refine ⟨fun a o e => b a o (x1 a o e) fun z => ?_, x2.other b (fun a e => ?_) k, x3.other b (fun a e => ?_) k, bt.get x4 t1 (fun z => by cases z), bt.get x5 t2 (fun z => by cases z), fun i hd' e hji => ?_⟩
  · have z : a = ha := z
    rw [z, f2 ha hn] at e
    cases e
  · have e : a = ha := e
    rw [e]
    exact none_of d1 hn
  · have e : a = ha := e
    rw [e]
    exact d3 ha hn
  · obtain ⟨a, e1, e2⟩ := x6 i hd' e (by omega)
    have hne : hd'.name ≠ hd.name := fun q => by
      have p1 : (m.hands.map Hn.name)[i]? = some hd.name := by rw [List.getElem?_map, e, ← q]; rfl
      have p2 : (m.hands.map Hn.name)[j]? = some hd.name := by rw [List.getElem?_map, hj]; rfl
      have := nd_ix ok.hn p1 p2
      omega
    exact ⟨a, e1, e2.keep bt k (fun z => hne (congrArg Prod.snd z)) (fun z => by injection z with z _; cases z) (fun z => by injection z with z _; cases z)⟩
def spLaw (K : PySem.W.Frag) : Sp := sp1 fun a H Q => ∃ (sp : Addr) (is : List Int), a = .ref sp ∧ SqL K H sp (is.map V.int) ∧ is.length ≤ 63 ∧ ∀ H', Q (.bl true) H'
theorem j_le (L : Int) : ∃ J : Int, J = (if (if L < 63 then L else 63) > 17 then (if L < 63 then L else 63) else 17) ∧ 17 ≤ J ∧ J ≤ 63 := by
  refine ⟨_, rfl, ?_, ?_⟩ <;> (split <;> (split <;> omega))
end SwK
set_option maxHeartbeats 16000000
/-! the law -/
namespace SwK
open PySem PySem.Spec PyProof.Rows L2
theorem dis_of {H : Hp} {τ υ : Tags} (w : OwnAt H τ) (f : ∀ a, υ a ≠ none → H a = none) : ∀ a, τ a ≠ none → υ a = none := fun a h => by
  cases e : υ a with
  | none => rfl
  | some t => exact absurd (w.none (f a (by rw [e]; exact fun z => nomatch z))) h
section
variable {P : Program} {w : World} {K : PySem.W.Frag} {mg : Str → Option Value} {base : Heap}
/- law: slots 0 _law_script 1 _law_cell 2 _law_first 3 _law_over 4 _law_mixed 5 _law_other 6 _law_plain 7 _law_k 8 _law_feed_here 9 _law_turn 10 _law_h 11 _law_found 12 _law_channel 13 _law_hand -/
theorem sc_law : FnScope ["_law_script", "_law_cell", "_law_first", "_law_over", "_law_mixed", "_law_other", "_law_plain", "_law_k", "_law_feed_here", "_law_turn", "_law_h", "_law_found", "_law_channel", "_law_hand"] ["_law_script"] (defScope s_law) := ⟨rfl, rfl, rfl, by decide +kernel, rfl, by decide +kernel, by decide +kernel⟩
theorem ok_law (T : Txt K mg) (hcmp : cmpB K (C_Over K) = true) {fd : FuncData} (F : FunD K "law" "law" (defArgs s_law) (defBody s_law) (defScope s_law) [] [] (He.ga K "law") fd) (c_law_names : C8.Cal P w K mg base 1 "_law_names" spNames []) (c_law_make : C8.Cal P w K mg base 45 "_law_make" (spMake K) []) (c_Over : C8.Mak P w K mg base 11 "Over" (C_Over K) (spOver K) []) (c_Mixed : C8.Mak P w K mg base 9 "Mixed" (C_Mixed K) (spMixed K) []) (c_Plain : C8.Mak P w K mg base 11 "Plain" (C_Plain K) (spPlain K) [])
    (c_law_alike : C8.Cal P w K mg base 3 "_law_alike" (spAlike K) []) (c_law_feed : C8.Cal P w K mg base 1 "_law_feed" (spFeed K) []) (c_law_take : C8.Cal P w K mg base 1 "_law_take" spTake []) (c_Mixed_step : C8.Met P w K mg base 21 (C_Mixed K) "step" (spMStep K) []) (c_Plain_step : C8.Met P w K mg base 23 (C_Plain K) "step" (spPStep K) []) (c_same : C8.Cal P w K mg base 2 "same" (spSame K) [])
    (c_Mixed_letters : C8.Met P w K mg base 1 (C_Mixed K) "letters" (spLetters K) []) (c_Mixed_told : C8.Met P w K mg base 1 (C_Mixed K) "told" (spTold K) []) (c_Mixed_change : C8.Met P w K mg base 28 (C_Mixed K) "change" (spChange K) []) : FnOk P w K mg base CX0 46 (He.ga K "law") fd ["_law_script"] (spLaw K) := by
  refine mkFn (k := 45) F sc_law (fun vs H Q E h => ?_) (fun vs H Q E h => ?_)
  · obtain ⟨a, rfl, _⟩ := sp1_len h
    rfl
  obtain ⟨a, rfl, h⟩ := sp1_len h
  intro cdv A outer s E hr
  have hu := hu_of hr
  obtain ⟨sp, is, rfl, hsp, hlen, k1⟩ := h
  have cM := cl_Mixed T
  refine ⟨_, (pss_cons (ps_set (i := 1) sc_law.nd rfl (by first | exact .inl rfl | exact .inr rfl) pe_int)
        (C8.pss_cut (ps_if (pt_cmpR op_gt (pe_callB call_len rfl (z_len T) PySem.boot_len (pa_cons (pv 0) pa_nil)) pe_int (nomark _)) (pss_one (ps_set (i := 1) sc_law.nd rfl (by first | exact .inl rfl | exact .inr rfl) (pe_op op_fdiv (pe_ix ix_list (pv 0) pe_int (fun _ _ => rfl)) pe_int))) pss_nil)
        (pss_cons (ps_set (i := 2) sc_law.nd rfl (by first | exact .inl rfl | exact .inr rfl) (C8.pe_c c_law_make hr (by omega) rfl (pa_cons (pv 0) (pa_cons pe_int (pa_cons (C8.pe_c c_law_names hr (by omega) rfl (pa_cons (pv 1) (pa_cons pe_int pa_nil))) pa_nil)))))
        (pss_cons (ps_set (i := 3) sc_law.nd rfl (by first | exact .inl rfl | exact .inr rfl) (C8.pe_mk c_Over hr (by omega) rfl (pa_cons (pv 2) (pa_cons (pv 2) (pa_cons pe_dnewK (pa_cons pe_dnewK pa_nil))))))
        (pss_cons (ps_set (i := 4) sc_law.nd rfl (by first | exact .inl rfl | exact .inr rfl) (C8.pe_mk c_Mixed hr (by omega) rfl (pa_cons (pv 3) pa_nil)))
        (pss_cons (ps_set (i := 5) sc_law.nd rfl (by first | exact .inl rfl | exact .inr rfl) (C8.pe_mk c_Mixed hr (by omega) rfl (pa_cons (pv 3) pa_nil)))
        (pss_cons (ps_set (i := 6) sc_law.nd rfl (by first | exact .inl rfl | exact .inr rfl) (C8.pe_mk c_Plain hr (by omega) rfl (pa_cons (pv 2) pa_nil)))
        (pss_cons (ps_if (PW.pt (pw_or (pt_cmpR (op_neSelf hcmp hr.units) (pe_fld (pv 4) rfl) (pv 3) (nomark _)) (pw_or1 (pt_not (pt_val (C8.pe_c c_law_alike hr (by omega) rfl (pa_cons (pv 2) (pa_cons (pv 4) (pa_cons (pv 6) pa_nil))))))))) (pss_one (ps_ret pe_bl)) pss_nil)
        (pss_cons (ps_for PassesOwn.never rfl (pi_range2 rfl (z_range T) (pa_cons pe_int (pa_cons (pe_callB (call_max2 rfl) rfl (z_max T) (by decide +kernel) (pa_cons pe_int (pa_cons (pe_callB (call_min2 rfl) rfl (z_min T) (by decide +kernel) (pa_cons pe_int (pa_cons (pe_callB call_len rfl (z_len T) PySem.boot_len (pa_cons (pv 0) pa_nil)) pa_nil))) pa_nil))) pa_nil))) (pg_name (i := 7) sc_law.nd rfl (by first | exact .inl rfl | exact .inr rfl)) (pss_cons (ps_set (i := 8) sc_law.nd rfl (by first | exact .inl rfl | exact .inr rfl) (C8.pe_c c_law_feed hr (by omega) rfl (pa_cons (pv 0) (pa_cons (pv 7) pa_nil))))
        (pss_cons (ps_for PassesOwn.never rfl (pi_range1 rfl (z_range T) (pa_cons pe_int pa_nil)) (pg_name (i := 9) sc_law.nd rfl (by first | exact .inl rfl | exact .inr rfl)) (pss_cons (ps_set (i := 10) sc_law.nd rfl (by first | exact .inl rfl | exact .inr rfl) (pe_ix ix_tup (pe_ix ix_tup (pe_ix ix_tup (pv 2) pe_int (fun _ _ => rfl)) (C8.pe_c c_law_take hr (by omega) rfl (pa_cons (pv 8) (pa_cons (pe_callB call_len rfl (z_len T) PySem.boot_len (pa_cons (pe_ix ix_tup (pv 2) pe_int (fun _ _ => rfl)) pa_nil)) pa_nil))) (fun _ _ => rfl)) pe_int (fun _ _ => rfl)))
        (pss_cons (ps_set (i := 11) sc_law.nd rfl (by first | exact .inl rfl | exact .inr rfl) (C8.pe_mt c_Mixed_step hr (by omega) (pv 4) (pa_cons (pv 10) pa_nil)))
        (pss_one (ps_if (PW.pt (pw_or (pt_not (pt_val (pe_callB call_isi rfl (z_isinstance T) (by decide +kernel) (pa_cons (pv 11) (pa_cons (pe_bltn (v := .ty "bool") rfl (z_bool T) (by decide +kernel) rfl) pa_nil))))) (pw_or (pt_cmpR op_ne (pv 11) (C8.pe_mt c_Plain_step hr (by omega) (pv 6) (pa_cons (pv 10) pa_nil)) (nomark _)) (pw_or1 (pt_cmpR op_ne (C8.pe_mt c_Mixed_step hr (by omega) (pv 5) (pa_cons (pv 10) pa_nil)) (pv 11) (nomark _)))))) (pss_one (ps_ret pe_bl)) pss_nil)))))
        (pss_cons (ps_if (PW.pt (pw_or (pt_not (pt_val (C8.pe_c c_law_alike hr (by omega) rfl (pa_cons (pv 2) (pa_cons (pv 4) (pa_cons (pv 6) pa_nil)))))) (pw_or1 (pt_cmpR op_notBl (C8.pe_c c_same hr (by omega) rfl (pa_cons (pv 4) (pa_cons (pv 5) pa_nil))) pe_bl (nomark _))))) (pss_one (ps_ret pe_bl)) pss_nil)
        (pss_cons (ps_for PassesOwn.never rfl (pi_tup (pe_ix ix_tup (pv 2) pe_int (fun _ _ => rfl))) (pg_name (i := 12) sc_law.nd rfl (by first | exact .inl rfl | exact .inr rfl)) (pss_one (ps_expr (pe_bm PySem.F.plainAttrs_list PySem.F.slot_list_append PySem.F.type_list_append mt_append (C8.pe_mt c_Mixed_letters hr (by omega) (pv 4) (pa_cons (pe_ix ix_tup (pv 12) pe_int (fun _ _ => rfl)) pa_nil)) (pa_cons (pe_tup (pa_cons pe_int (pa_cons pe_int pa_nil))) pa_nil)))))
        (pss_one (ps_expr (pe_bm PySem.F.plainAttrs_list PySem.F.slot_list_append PySem.F.type_list_append mt_append (C8.pe_mt c_Mixed_told hr (by omega) (pv 4) (pa_cons (pe_ix ix_tup (pe_ix ix_tup (pe_ix ix_tup (pv 2) pe_int (fun _ _ => rfl)) pe_int (fun _ _ => rfl)) pe_int (fun _ _ => rfl)) pa_nil)) (pa_cons pe_int pa_nil)))))))))
        (pss_cons (ps_for PassesOwn.never rfl (pi_tup (pe_ix ix_tup (pv 2) pe_int (fun _ _ => rfl))) (pg_name (i := 13) sc_law.nd rfl (by first | exact .inl rfl | exact .inr rfl)) (pss_one (ps_expr (C8.pe_mt c_Mixed_change hr (by omega) (pv 5) (pa_cons (pe_ix ix_tup (pv 13) pe_int (fun _ _ => rfl)) pa_nil)))))
        (pss_one (ps_ret (C8.pe_c c_law_alike hr (by omega) rfl (pa_cons (pv 2) (pa_cons (pv 4) (pa_cons (pv 6) pa_nil)))))))))))))))), ?_⟩
  refine ⟨fun σ' H' => Same H H' ∧ ∃ cell : Int, σ' = [some (.ref sp), some (.int cell), none, none, none, none, none, none, none, none, none, none, none, none], ?_, ?_⟩
  · refine ⟨_, rfl, _, _, rfl, .inl ⟨_, hsp, rfl⟩, _, _, rfl, rfl, _, rfl, ?_⟩
    cases is with
    | nil => exact propF (by decide) ⟨Same.refl _, 0, rfl⟩
    | cons i r => exact propT (by rw [List.map_cons, List.length_cons]; omega) ⟨_, rfl, sp, _, _, _, rfl, rfl, hsp, at0, _, _, rfl, rfl, ⟨by decide, by decide⟩, Same.refl _, _, rfl⟩
  rintro σ' H0 ⟨s0, cell, rfl⟩
  refine ⟨_, rfl, _, rfl, cell, rfl, rfl, fun H1 np ns s1 hnp hns => ⟨sp, is, 1, np, ns, rfl, sqL_same (s0.trans s1) hsp, rfl, by decide, rfl, hnp, hns, fun H2 fa m s2 im ok mv => ?_⟩⟩
  have s02 := (s0.trans s1).trans s2
  refine ⟨_, rfl, _, rfl, fun d1 hd1 d2 hd2 ov dxo hov hdxo hneo => ?_⟩
  have u1 : Same H2 (upd H2 d1 (.dK [])) := same_new hd1
  have e1 : upd H2 d1 (.dK []) d1 = some (.dK []) := upd_same
  generalize upd H2 d1 (.dK []) = H3 at u1 e1 hd2 hov hdxo ⊢
  have u2 : Same H3 (upd H3 d2 (.dK [])) := same_new hd2
  have e2 : upd H3 d2 (.dK []) d2 = some (.dK []) := upd_same
  generalize upd H3 d2 (.dK []) = H4 at u2 e2 hov hdxo ⊢
  have u3 : Same H4 (upd (upd H4 dxo (.own ov)) ov (.ins (C_Over K) dxo [])) := mk_same hov hdxo hneo
  have u23 := (u1.trans u2).trans u3
  refine ⟨m, ov, dxo, d1, d2, rfl, upd_same, im.mono (Tk.of u23), im.mono (Tk.of u23), rfl, u3 _ _ (u2 _ _ e1), rfl, u3 _ _ e2, mv, fun H5 wx px b5 _ _ hovA => ⟨rfl, ?_⟩⟩
  have s25 : Same H2 H5 := fun a o e => b5 a o (u23 a o e) fun z => by
    rcases z with z | z
    · rw [z, new_old (u1.trans u2) hov] at e
      cases e
    · rw [z, new_old u1 hd2] at e
      cases e
  have s05 := s02.trans s25
  have im5 := im.mono (Tk.of s25)
  clear u1 u2 u3 u23 b5 e1 e2
  obtain ⟨dxO, lkO, eO⟩ := hovA.obj
  obtain ⟨f1, f2, f3, ef, j1, j2, j3⟩ : ∃ f1 f2 f3, H5 fa = some (.tup [f1, f2, f3]) ∧ Im H5 f1 (kindsD m.kinds) ∧ Im H5 f2 (.tup (m.chans.map Ch.d)) ∧ Im H5 f3 (.tup (m.hands.map Hn.d)) := by
    obtain ⟨a, f1, f2, f3, ea, ef, j1, j2, j3⟩ := im3 im5
    cases ea
    exact ⟨f1, f2, f3, ef, j1, j2, j3⟩
  obtain ⟨ha, hxs, rfl, eh, ih⟩ := im_tup j3
  obtain ⟨ca, cxs, rfl, ec, ic⟩ := im_tup j2
  have hhl : hxs.length = m.hands.length := by rw [ih.length, List.length_map]
  have hpos : 0 < m.hands.length := List.length_pos_iff.mpr ok.hpos
  have hfew := ok.hfew
  -- three houses
  refine ⟨_, rfl, fun mp dxm hmp hdxm hnem => ⟨m, mp, dxm, ov, dxO, .ref fa, .ref fa, _, _, lkO, rfl, rfl, (Ne.symm (ne_of_none eO hmp)), ok, upd_same, mk_same hmp hdxm hnem _ _ eO, im5.mono (Tk.of (mk_same hmp hdxm hnem)), fun H6 τ0 tg0 b6 mx6 => ⟨rfl, ?_⟩⟩⟩
  have s56 : Same H5 H6 := Bt.same1 (mk_same hmp hdxm hnem) hmp b6
  have fr1 := tags_new (mk_same hmp hdxm hnem) hmp tg0
  refine ⟨_, rfl, fun op dxp hop hdxp hnep => ⟨m, op, dxp, ov, dxO, .ref fa, .ref fa, _, _, lkO, rfl, rfl, (Ne.symm (ne_of_none (s56 _ _ eO) hop)), ok, upd_same, mk_same hop hdxp hnep _ _ (s56 _ _ eO), im5.mono (Tk.of (s56.trans (mk_same hop hdxp hnep))), fun H7 υ0 tg7 b7 my7 => ⟨rfl, ?_⟩⟩⟩
  have s67 : Same H6 H7 := Bt.same1 (mk_same hop hdxp hnep) hop b7
  have fr2 := tags_new (mk_same hop hdxp hnep) hop tg7
  refine ⟨_, rfl, fun pp dxq hpp hdxq hneq => ⟨m, pp, dxq, ok, rfl, upd_same, im5.mono (Tk.of ((s56.trans s67).trans (mk_same hpp hdxq hneq))), fun H8 τp ln tg8 b8 pl8 => ⟨rfl, ?_⟩⟩⟩
  have s78 : Same H7 H8 := Bt.same1 (mk_same hpp hdxq hneq) hpp b8
  have fr3 := tags_new (mk_same hpp hdxq hneq) hpp tg8
  have li8 : LI K H5 H8 τ0 υ0 τp ln mp op pp ov m (st0 m) (st0 m) (st0 m) :=
    ⟨(s56.trans s67).trans s78, mx6.same (s67.trans s78), my7.same s78, pl8, fr1, fun a h => new_old s56 (fr2 a h), fun a h => new_old (s56.trans s67) (fr3 a h), dis_of mx6.own fr2, dis_of (mx6.own.same s67) fr3, dis_of my7.own fr3⟩
  have wt0 := st0_wt ok
  have sz0 := st0_sz ok
  clear tg0 b6 mx6 fr1 fr2 fr3 tg7 b7 my7 tg8 b8 pl8
  obtain ⟨dxM, hpM, rpM, hkM, rkM, eM, _⟩ := li8.mx.obj
  have tk58 := Tk.of li8.sm
  refine ⟨_, rfl, mp, _, dxM, _, _, rfl, eM, cM, na_Mixed_over T, l_Mixed_over, _, rfl, ov, _, _, rfl, rfl, li8.sm _ _ eO, _, rfl, iteF ?_⟩
  refine ⟨_, rfl, _, rfl, _, rfl, τ0, τp, ln, m, mp, ov, pp, st0 m, im5.mono tk58, rfl, rfl, ok, wt0, sz0.mono (by decide), li8.mx, li8.pl, fun H9 s9 => ⟨_, rfl, iteF ?_⟩⟩
  have li9 := li8.same s9
  clear li8 eM
  obtain ⟨J, hJ, hJ1, hJ2⟩ := j_le (((is.map V.int).length : Nat) : Int)
  refine ⟨_, rfl, _, _, rfl, .inl ⟨_, sqL_same (s05.trans li9.sm) hsp, rfl⟩, _, _, rfl, _, _, rfl, 12, J, (by rw [hJ]), ⟨by decide, by decide, by omega, by omega⟩, ?_⟩
  refine for_range (fun i σ H' => (∃ τ υ st, LI K H5 H' τ υ τp ln mp op pp ov m st st st ∧ WT m st ∧ Sz m (8 * i) st) ∧ ∃ o7 o8 o9 o10 o11 o12 o13, σ = [some (.ref sp), some (.int cell), some (.ref fa), some (.ref ov), some (.ref mp), some (.ref op), some (.ref pp), o7, o8, o9, o10, o11, o12, o13])
    ⟨⟨τ0, υ0, st0 m, li9, wt0, sz0⟩, _, _, _, _, _, _, _, rfl⟩ ?_ ?_
  · rintro i σ H' hi ⟨⟨τ, υ, st, li, wt, sz⟩, o7, o8, o9, o10, o11, o12, o13, rfl⟩
    have hi51 : i < 51 := by omega
    refine ⟨_, rfl, _, rfl, sp, is, 12 + i, rfl, sqL_same (s05.trans li.sm) hsp, rfl, by omega, fun Hf fp sf hfp fd => ?_⟩
    obtain ⟨q0, q1, q2, q3⟩ := li.fresh hfp
    refine ⟨8, rfl, by decide, by decide, ?_⟩
    refine for_range (n := 8) (fun j σ H' => (∃ τ υ st, LI K H5 H' τ υ τp ln mp op pp ov m st st st ∧ WT m st ∧ Sz m (8 * i + j) st ∧ FF H5 H' τ υ τp fp) ∧ ∃ o7 o9 o10 o11 o12 o13, σ = [some (.ref sp), some (.int cell), some (.ref fa), some (.ref ov), some (.ref mp), some (.ref op), some (.ref pp), o7, some (.ref fp), o9, o10, o11, o12, o13])
      ⟨⟨τ, υ, st, li.same sf, wt, sz, ⟨fd, q0, q1, q2, q3⟩⟩, _, _, _, _, _, _, rfl⟩ ?_ ?_
    · clear li wt sz q0 q1 q2 q3 fd sf hfp
      rintro j σ Ha hj ⟨⟨τ, υ, st, li, wt, sz, ff⟩, o7, o9, o10, o11, o12, o13, rfl⟩
      have eha := li.sm _ _ eh
      refine ⟨_, rfl, fa, _, _, _, rfl, rfl, SqT.of (li.sm _ _ ef), at2, _, rfl, _, rfl, fa, _, _, _, rfl, rfl, SqT.of (li.sm _ _ ef), at2, _, _, rfl, .inr ⟨_, SqT.of eha, rfl⟩, fp, _, rfl, ff.fd, rfl, (by omega), (by omega), fun Hb d p0 p1 bb => ?_⟩
      have lib := li.other bb.bt (bb.tk ff.fd) ff.h0 ff.t1 ff.t2 ff.t3
      obtain ⟨hd, hhd⟩ : ∃ hd, m.hands[d.toNat]? = some hd := ⟨m.hands[d.toNat]'(by omega), by simp⟩
      have hhm := List.mem_of_getElem? hhd
      have ihb := ih.mono (Tk.of lib.sm)
      obtain ⟨v, hv, iv⟩ := ihb.get (j := d.toNat) (d := hd.d) (by rw [List.getElem?_map, hhd]; rfl)
      have hdv : atI hxs d = some v := by
        have e : d = ((d.toNat : Nat) : Int) := by omega
        rw [e]
        exact atI_nat hv
      obtain ⟨qa, y1, y2, y3, rfl, eqa, i1, i2, i3⟩ := im3 iv
      cases im_str i1
      refine ⟨ha, _, _, _, rfl, rfl, SqT.of (lib.sm _ _ eh), hdv, qa, _, _, _, rfl, rfl, SqT.of eqa, at0, ?_⟩
      have hlt := wt.line hd hhm
      obtain ⟨row, hrow⟩ : ∃ row, hd.rows[(st.hand hd.name).line]? = some row := ⟨_, List.getElem?_eq_getElem hlt⟩
      obtain ⟨res, st', ast, wt', sz'⟩ := step_ex ok wt hhm hrow
      have szk : Sz m 1000 st := sz.mono (by omega)
      obtain ⟨dxM, hpM, rpM, hkM, rkM, eM, _⟩ := lib.mx.obj
      refine ⟨_, rfl, mp, dxM, _, rfl, eM, n_Mixed_step, _, rfl, τ, m, mp, ov, dxO, .ref fa, .ref fa, _, _, lkO, st, hd, row, res, st', rfl, rfl, ok, hhm, lib.sm _ _ eO, im5.mono (Tk.of lib.sm), lib.mx, wt, szk, hrow, ast, fun Hc τ' ext bc mxc => ?_⟩
      have lic := lib.step1 ext bc mxc
      have ffc : FF H5 Hc τ' υ τp fp := ⟨bb.fd.bt bc (fun z => z ff.t1), ff.h0, ext_none ext ff.t1 bb.fd.live, ff.t2, ff.t3⟩
      refine ⟨_, rfl, _, _, _, _, true, rfl, .ty "bool", .base (.bl res), kit_ty (by decide +kernel), _, rfl, iteF ?_⟩
      obtain ⟨dxP, mvP, hpP, lpP, hkP, lkP, eP, _⟩ := lic.pl.obj
      refine ⟨_, rfl, _, rfl, pp, dxP, _, rfl, eP, n_Plain_step, _, rfl, τp, ln, m, pp, st, hd, row, res, st', rfl, rfl, ok, hhm, lic.pl, wt, szk, hrow, ast, fun Hd bd pld => ⟨rfl, _, rfl, neF ?_⟩⟩
      have lid := lic.step3 bd pld
      have ffd : FF H5 Hd τ' υ τp fp := ⟨ffc.fd.bt bd (fun z => z ffc.t3), ffc.h0, ffc.t1, ffc.t2, ffc.t3⟩
      obtain ⟨dxO2, hpO, rpO, hkO, rkO, eO2, _⟩ := lid.my.obj
      refine ⟨_, rfl, op, dxO2, _, rfl, eO2, n_Mixed_step, _, rfl, υ, m, op, ov, dxO, .ref fa, .ref fa, _, _, lkO, st, hd, row, res, st', rfl, rfl, ok, hhm, lid.sm _ _ eO, im5.mono (Tk.of lid.sm), lid.my, wt, szk, hrow, ast, fun He υ' ext2 be mye => ⟨_, rfl, rfl, _, rfl, neF ?_⟩⟩
      have lie := lid.step2 ext2 be mye
      exact ⟨⟨τ', υ', st', lie, wt', sz' _ sz, ⟨ffd.fd.bt be (fun z => z ffd.t2), ffd.h0, ffd.t1, ext_none ext2 ffd.t2 ffd.fd.live, ffd.t3⟩⟩, _, _, _, _, _, _, rfl⟩
    · clear li wt sz q0 q1 q2 q3 fd sf hfp
      rintro σ Ha ⟨⟨τ, υ, st, li, wt, sz, ff⟩, o7, o9, o10, o11, o12, o13, rfl⟩
      have szk : Sz m 1000 st := sz.mono (by omega)
      refine ⟨_, rfl, _, rfl, _, rfl, τ, τp, ln, m, mp, ov, pp, st, im5.mono (Tk.of li.sm), rfl, rfl, ok, wt, szk, li.mx, li.pl, fun Hb sb => ⟨_, rfl, iteF ?_⟩⟩
      have lib := li.same sb
      refine ⟨_, rfl, _, rfl, τ, υ, m, mp, op, ov, ov, st, rfl, rfl, ok, wt, lib.mx, lib.my, lib.d1, fun Hc sc => ⟨_, _, rfl, rfl, _, rfl, iteF ?_⟩⟩
      have lic := lib.same sc
      refine ⟨_, rfl, fa, _, _, _, rfl, rfl, SqT.of (lic.sm _ _ ef), at1, ca, rfl, ⟨_, SqT.of (lic.sm _ _ ec)⟩, for_tup (xs := cxs) (fun j σ H' => LI K H5 H' τ υ τp ln mp op pp ov m st st st ∧ ∃ o7 o9 o10 o11 o12 o13, σ = [some (.ref sp), some (.int cell), some (.ref fa), some (.ref ov), some (.ref mp), some (.ref op), some (.ref pp), o7, some (.ref fp), o9, o10, o11, o12, o13]) ⟨lic, _, _, _, _, _, _, rfl⟩ (fun j σ H' _ z => SqT.of (z.1.sm _ _ ec)) ?_ ?_⟩
      · rintro j x σ Hd hx ⟨lid, o7, o9, o10, o11, o12, o13, rfl⟩
        obtain ⟨ch, hch, ix⟩ := iml_map ic hx
        have hcm := List.mem_of_getElem? hch
        obtain ⟨qa, y1, y2, y3, y4, rfl, eqa, i1, i2, i3, i4⟩ := im4 (ix.mono (Tk.of lid.sm))
        cases im_str i1
        have hrl := szk.row ch hcm
        obtain ⟨dxM, hpM, rpM, hkM, rkM, eM, _⟩ := lid.mx.obj
        refine ⟨_, rfl, mp, dxM, _, rfl, eM, n_Mixed_letters, _, rfl, qa, _, _, _, rfl, rfl, SqT.of eqa, at0, τ, m, mp, ov, st, ch, rfl, rfl, hcm, lid.mx, fun He q xs se hq e3 ix3 => ?_⟩
        obtain ⟨g0, g1, g2, g3⟩ := lid.fresh hq
        have lie := lid.same se
        refine ⟨.inl ⟨rfl, _, SqL.of e3⟩, le_size (by show 2 ≤ 100000; decide), fun tq htq => ?_⟩
        have st' := same_new (o := .tup [.int 1, .int 0]) htq
        have lif := lie.same st'
        have e4 := st' _ _ e3
        refine ⟨q, _, _, rfl, rfl, e4, (by rw [ix3.length, List.length_map]; exact lt_size (by omega)), ?_⟩
        exact ⟨lif.other (Bt.put rfl) (tk_put e4 ntL) g0 g1 g2 g3, _, _, _, _, _, _, rfl⟩
      · rintro σ Hd ⟨lid, o7, o9, o10, o11, o12, o13, rfl⟩
        obtain ⟨hd, hhd⟩ : ∃ hd, m.hands[0]? = some hd := ⟨m.hands[0]'hpos, by simp⟩
        have hhm := List.mem_of_getElem? hhd
        obtain ⟨v, hv, iv⟩ := (ih.mono (Tk.of lid.sm)).get (j := 0) (d := hd.d) (by rw [List.getElem?_map, hhd]; rfl)
        obtain ⟨qa, y1, y2, y3, rfl, eqa, i1, i2, i3⟩ := im3 iv
        cases im_str i1
        have hnl := szk.notes hd hhm
        obtain ⟨dxM, hpM, rpM, hkM, rkM, eM, _⟩ := lid.mx.obj
        refine ⟨_, rfl, mp, dxM, _, rfl, eM, n_Mixed_told, _, rfl, fa, _, _, _, rfl, rfl, SqT.of (lid.sm _ _ ef), at2, ha, _, _, _, rfl, rfl, SqT.of (lid.sm _ _ eh), atI_nat (j := 0) hv, qa, _, _, _, rfl, rfl, SqT.of eqa, at0, τ, m, mp, ov, st, hd, rfl, rfl, hhm, lid.mx, fun He q xs se hq e3 ix3 => ?_⟩
        obtain ⟨g0, g1, g2, g3⟩ := lid.fresh hq
        have lie := lid.same se
        refine ⟨.inl ⟨rfl, _, SqL.of e3⟩, q, _, _, rfl, rfl, e3, (by rw [ix3.length]; exact lt_size (by omega)), ?_⟩
        exact ⟨⟨τ, υ, st, lie.other (Bt.put rfl) (tk_put e3 ntL) g0 g1 g2 g3, wt, sz⟩, _, _, _, _, _, _, _, rfl⟩
  · rintro σ Ha ⟨⟨τ, υ, st, li, wt, sz⟩, o7, o8, o9, o10, o11, o12, o13, rfl⟩
    have szk : Sz m 1000 st := sz.mono (by omega)
    obtain ⟨dxO2, hpO, rpO, hkO, rkO, eO2, tO1, tO2, eO3, hh, _⟩ := li.my.obj
    have ci0 : CI K H5 Ha τ υ τp ln mp op pp ov dxO2 hpO (.ref rpO) hkO m st 0 := ⟨li.sm, li.mx, li.pl, eO2, eO3, fun i hd e _ => hh.half hd (List.mem_of_getElem? e)⟩
    refine ⟨_, rfl, fa, _, _, _, rfl, rfl, SqT.of (li.sm _ _ ef), at2, ha, rfl, ⟨_, SqT.of (li.sm _ _ eh)⟩, for_tup (xs := hxs) (fun j σ H' => CI K H5 H' τ υ τp ln mp op pp ov dxO2 hpO (.ref rpO) hkO m st j ∧ ∃ o7 o8 o9 o10 o11 o12 o13, σ = [some (.ref sp), some (.int cell), some (.ref fa), some (.ref ov), some (.ref mp), some (.ref op), some (.ref pp), o7, o8, o9, o10, o11, o12, o13]) ⟨ci0, _, _, _, _, _, _, _, rfl⟩ (fun j σ H' _ z => SqT.of (z.1.1 _ _ eh)) ?_ ?_⟩
    · rintro j x σ Hb hx ⟨ci, o7, o8, o9, o10, o11, o12, o13, rfl⟩
      obtain ⟨hd, hhd, ix⟩ := iml_map ih hx
      have hhm := List.mem_of_getElem? hhd
      obtain ⟨qa, y1, y2, y3, rfl, eqa, i1, i2, i3⟩ := im3 (ix.mono (Tk.of ci.1))
      cases im_str i1
      have ci' := ci
      obtain ⟨c1, c2, c3, c4, c5, c6⟩ := ci
      obtain ⟨hf, hval, hH⟩ := c6 j hd hhd (Nat.le_refl _)
      have hH0 := hH
      obtain ⟨th, dxh, bx, nx, kvs, ns, eh1, _⟩ := hH
      exact ⟨_, rfl, op, dxO2, _, rfl, c4, n_Mixed_change, _, rfl, qa, _, _, _, rfl, rfl, SqT.of eqa, at0, υ, m, op, ov, wx, px, .ref fa, .ref fa, dxO2, hpO, .ref rpO, hkO, hd, hf, st.hand hd.name, rfl, rfl, ok, mv.kinds, mv.hands hd hhm, hovA.same c1, c4, c5, hval, hH0, wt.env hd hhm, wt.line hd hhm, fun Hc r bc => ⟨CI.next ok li.f2 li.d1 li.d3 tO1 tO2 ci' hhd th eh1 bc, _, _, _, _, _, _, _, rfl⟩⟩
    · rintro σ Hb ⟨ci, o7, o8, o9, o10, o11, o12, o13, rfl⟩
      exact ⟨_, rfl, _, rfl, _, rfl, τ, τp, ln, m, mp, ov, pp, st, im5.mono (Tk.of ci.1), rfl, rfl, ok, wt, szk, ci.2.1, ci.2.2.1, fun Hc _ => k1 Hc⟩
end
end SwK
set_option maxHeartbeats 4000000
/-! all parts joined -/
namespace SwK
open PySem PySem.Spec PyProof.Rows L2
section
variable {P : Program} {w : World} {K : PySem.W.Frag} {mg : Str → Option Value} {base : Heap}
theorem j_worth (T : Txt K mg) : C8.Cal P w K mg base 20 "worth" (spWorth 8) [] :=
  ok_worth T (ok_field T (ok_parts_of T (ok_kind_told T))) (ok_worth_of_two T) 8
theorem j_hand_of (T : Txt K mg) : C8.Cal P w K mg base 2 "hand_of" spHandOf [] := ok_hand_of T (ok_named T)
theorem j_sort_of (T : Txt K mg) : C8.Cal P w K mg base 2 "sort_of" spSortOf [] := ok_sort_of T (ok_kind_told T)
theorem j_parts_of (T : Txt K mg) : C8.Cal P w K mg base 2 "parts_of" spPartsOf [] := ok_parts_of T (ok_kind_told T)
theorem j_nought (T : Txt K mg) : C8.Cal P w K mg base 7 "nought" (spNought 4) [] := ok_nought T (j_sort_of T) (j_parts_of T) 4
theorem j_look_ways (T : Txt K mg) : C8.Cal P w K mg base 10 "look_ways" spLookWs [] := by
  have c_named_sort : C8.Cal P w K mg base 4 "named_sort" spNeedS [] := ok_named_sort T (j_sort_of T) (ok_need_sort T (j_sort_of T) (j_parts_of T))
  have c_kind_of0 : C8.Cal P w K mg base 2 "kind_of" (spK KO0) [] := ok_kind_of0 T (ok_kind_of_box T)
  have c_kind_of : C8.Cal P w K mg base 6 "kind_of" (spK KO1) [] := ok_kind_of T (ok_kind_of_box T) (ok_kind_of_rec T (ok_need_kind T) c_named_sort c_kind_of0) (ok_kind_of_tag T (ok_need_kind T) c_named_sort (ok_part_kind T) c_kind_of0)
  have c_look_term : C8.Cal P w K mg base 7 "look_term" spLookT [] := ok_look_term T c_kind_of
  exact ok_look_ways T (ok_look_way T (j_sort_of T) (j_parts_of T) (ok_is_term T) c_look_term (ok_look_arms T c_look_term (ok_boxes_over_waysL T (ok_goes_to T))) (ok_boxes_over_ways T (ok_goes_to T)))
theorem j_bop (T : Txt K mg) : C8.Cal P w K mg base 3 "boxes_over_places" spBop [] := ok_boxes_over_places T (j_hand_of T) (ok_goes_to T)
theorem j_Over (T : Txt K mg) : C8.Mak P w K mg base 11 "Over" (C_Over K) (spOver K) [] :=
  ok_Over T (ok_made_ways T (j_sort_of T) (ok_rec_rule T (j_parts_of T) (ok_goes_to T)) (ok_alt_rule T (j_parts_of T) (ok_goes_to T))) (j_look_ways T) (ok_need_fit T (ok_goes_to T))
    (ok_made_places T (ok_sets_by_rules T (j_hand_of T) (j_bop T)) (ok_marks_of T (j_hand_of T)) (ok_mark_row T (j_hand_of T)))
theorem j_Mixed_step (T : Txt K mg) : C8.Met P w K mg base 21 (C_Mixed K) "step" (spMStep K) [] :=
  ok_Mixed_step T (ok_Mixed_make_at T) (j_hand_of T) (ok_Mixed_takes T) (j_worth T) (ok_Half_seen T) (ok_led_to T)
theorem j_Mixed (T : Txt K mg) : C8.Mak P w K mg base 9 "Mixed" (C_Mixed K) (spMixed K) [] := ok_Mixed T (ok_first_half T (j_hand_of T) (j_nought T) (ok_Half T))
theorem j_Plain (T : Txt K mg) : C8.Mak P w K mg base 11 "Plain" (C_Plain K) (spPlain K) [] :=
  ok_Plain T (ok_Lone T (ok_first_stand T (j_hand_of T) (j_nought T)) (j_hand_of T) (ok_ways_of T)) (ok_Plain_share T)
theorem j_Plain_step (T : Txt K mg) : C8.Met P w K mg base 23 (C_Plain K) "step" (spPStep K) [] := ok_Plain_step T (ok_Lone_step T (ok_Lone_value T (j_worth T)))
theorem j_change (T : Txt K mg) : C8.Met P w K mg base 28 (C_Mixed K) "change" (spChange K) [] := by
  have c_turned : C8.Cal P w K mg base 25 "turned" (spTurned 4) [] := ok_turned T (j_parts_of T) (j_sort_of T) (ok_goes_to T) (j_worth T) 4
  exact ok_Mixed_change T (ok_brought T (ok_place_of T (j_hand_of T)) (ok_boxes_turned T (j_hand_of T) (j_bop T) c_turned) (j_worth T) (ok_mark_row T (j_hand_of T))) (ok_Mixed_stand2 T) (ok_Half_becomes T (ok_Before T))
theorem j_alike (T : Txt K mg) : C8.Cal P w K mg base 3 "_law_alike" (spAlike K) [] :=
  ok_law_alike T (ok_Mixed_make_of T) (ok_Mixed_stand T) (ok_Mixed_told T) (ok_Mixed_count T) (ok_Mixed_letters T) (ok_Plain_stand T (ok_Lone_stand T)) (ok_Plain_told T (ok_Lone_told T)) (ok_Plain_count T (ok_Lone_count T)) (ok_Plain_letters T)
theorem j_new_term (T : Txt K mg) : C8.Cal P w K mg base 41 "_law_new_term" spNewT [] := by
  have c_small : C8.Cal P w K mg base 7 "_law_small" (spSmall 5) [] := ok_law_small T (ok_law_sort_of T) 5
  have c_term : C8.Cal P w K mg base 40 "_law_term" (spTerm 15) [] := ok_law_term T (ok_law_take T) (ok_law_number T (ok_law_take T)) (ok_law_boxed T (ok_law_take T)) (ok_law_sort_of T) c_small 15
  exact ok_law_new_term T (ok_law_take T) c_small c_term
theorem j_make (T : Txt K mg) : C8.Cal P w K mg base 45 "_law_make" (spMake K) [] := by
  have c_size : C8.Cal P w K mg base 7 "_law_size" (spSize 5) [] := ok_law_size T (ok_law_sort_ofL T) 5
  have c_any : C8.Cal P w K mg base 2 "_law_any_kind" spAnyK [] := ok_law_any_kind T (ok_law_take T)
  have c_deal : C8.Cal P w K mg base 42 "_law_deal" spDeal [] := ok_law_deal T (ok_law_take T) (ok_law_into T) (j_new_term T)
  have c_rows : C8.Cal P w K mg base 43 "_law_rows" spRows [] := ok_law_rows T (ok_law_take T) (ok_law_into T) (j_new_term T) c_deal
  exact ok_law_make T (ok_law_feed T) (ok_law_take T) (ok_law_kinds T (ok_law_take T) (ok_law_parts T (ok_law_take T) c_size)) (ok_law_channels T (ok_law_take T) c_any) (ok_law_hands T (ok_law_feed T) (ok_law_boxes T (ok_law_take T) c_any) c_rows)
theorem j_law (T : Txt K mg) {fd : FuncData} (F : FunD K "law" "law" (defArgs s_law) (defBody s_law) (defScope s_law) [] [] (He.ga K "law") fd) : FnOk P w K mg base CX0 46 (He.ga K "law") fd ["_law_script"] (spLaw K) :=
  ok_law T T.o F (ok_law_names T) (j_make T) (j_Over T) (j_Mixed T) (j_Plain T) (j_alike T) (ok_law_feed T) (ok_law_take T) (j_Mixed_step T) (j_Plain_step T) (ok_same T (ok_Half_all_parts T)) (ok_Mixed_letters T) (ok_Mixed_told T) (j_change T)
end
end SwK
set_option maxHeartbeats 0
/-! the law, over the head -/
namespace SwK
open PySem PySem.Spec PyProof.Rows L2
theorem facts {P : Program} {w : World} {K : PySem.W.Frag} {h : Heap} {mg : Str → Option Value} {f : Addr} (X : K.In h) (G : h.Ns mainGlobals mg) (hfa : mg ("law" : Str) = some (.ref f)) (c : He.SaysD faAll fnAll K) (o : cmpB K (He.ga K "Over") = true) :
    ∃ fd : FuncData, (∀ (s : Shared) (v : Value), BindsTo s fd ⟨[v], []⟩ [("_law_script", v)]) ∧ ∀ base : Heap, K.In base → base.Ns mainGlobals mg → FnOk P w K mg base CX0 46 f fd ["_law_script"] (spLaw K) := by
  have T : Txt K mg := ⟨c, o, h, X, G⟩
  obtain ⟨fd, F⟩ := f_law T
  have e := hfa.symm.trans (g_law T)
  cases e
  have b := FunD.bindsA (ps := ["_law_script"]) F fun _ _ _ _ _ _ us hl => match us, hl with | [_], _ => rfl
  exact ⟨fd, fun s v => b s [v] rfl, fun base _ _ => j_law T F⟩
end SwK
open PySem PySem.W PySem.Calls PyProof.Rows
theorem PySem.Challenge.cw_swapstride_k55_elder_alone_is_plain_holds : PySem.Challenge.rw_swapstride_k55_elder_alone_is_plain.Holds := by
  w_on; o_law
  refine HandSHeadRun.head_any (r := OpenLaw.row PySem.Challenge.rw_swapstride_k55_elder_alone_is_plain) (q := view (OpenLaw.row PySem.Challenge.rw_swapstride_k55_elder_alone_is_plain).prog [111]) (H := SwK.hk) (ob := SwK.ob) (M := 8000) (loose := SwK.looseAll) (d := HandSHeadRun.topDef (OpenLaw.row PySem.Challenge.rw_swapstride_k55_elder_alone_is_plain).prog 111) (kwd := []) SwK.ob_eq
    (by kernel_rfl) (fun s => by kernel_rfl) SwK.run (by kernel_rfl) (by kernel_rfl) (by kernel_rfl) (by rfl) (by first | assumption | decide +kernel) (by decide +kernel) ⟨rfl, rfl, rfl, rfl, rfl, by decide +kernel⟩ ?hw ?hc
  case hw => w_witness2
  case hc =>
    refine L2.walk_ofE (l := PySem.Challenge.rw_swapstride_k55_elder_alone_is_plain) (n := 63) (k := 46) (x := "_law_script") (CX := L2.CX0) rfl (by decide) (by kernel_rfl) ⟨rfl, by decide, by decide⟩ ?F (fun _ _ _ _ z => z)
    intro w mg fa h Y G hmg0
    obtain ⟨K, KX, c, o⟩ := Y
    have hmg : mg ("law" : PySem.Str) = some (.ref fa) := by
      have e : (HandSHeadRun.topDef (OpenLaw.row PySem.Challenge.rw_swapstride_k55_elder_alone_is_plain).prog 111).name = ("law" : PySem.Str) := by kernel_rfl
      rw [← e]
      exact hmg0
    obtain ⟨fd, hb, hF⟩ := SwK.facts (P := (PySem.Challenge.rw_swapstride_k55_elder_alone_is_plain).prog) (w := w) KX G hmg c o
    exact ⟨K, fd, SwK.spLaw K, KX, hb, fun H a ns hl _ hS => ⟨a, ns, rfl, hS, hl, fun _ => rfl⟩, hF⟩

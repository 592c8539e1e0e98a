import PyProof.Rows.All
import Wide.All
import OpenK.AllK
import Wide.FinOn
import KE.KStateDown
import HandS.Base
import HandS.Call
import HandS.Ends
import HandS.More
import HandS.Words
import HandS.Defaults
import HandS.Head0
import HandS.Head1
import HandS.Head2
import HandS.HeadEnd
import HandS.HeadHook1
import HandS.HeadHook2
import HandS.HeadHook3
import HandS.HeadHook4
import Wide.Once
import HandS.List
import HandS.Comp
import HandS.Text
import HandS.ForMost
import HandS.TupAny
import HandS.Deep
import KE.KDictKeyed
import HandS.IsInst
import HandS.TupSets
import HandS.Conv
import KE.DataMinMax
import HandS.CallLocal
import HandS.FStr
import HandS.Zip
import HandS.Iter
import HandS.Dict
import HandS.Small
import HandS.SortKw
import HandS.Codes
import HandS.BoundList
import KE.GoesMore
import KE.GoesZip
import KE.GoesEnum
import HandS.SetTxt0
import HandS.Strs
import PyProof.Rows.SortStr
import PySem.Challenge.RW_pickalike_k94_whole_worlds_side_by_side
section
-- PkHeadDefs
set_option Elab.async false
set_option linter.all false
set_option maxRecDepth 100000
set_option maxHeartbeats 0
namespace Pk
open PySem PySem.Spec PyProof.Rows L2
def top (i : Nat) : Stmt := PySem.Challenge.pw_pickalike_k94_whole_worlds_side_by_side.main.body.getD i (.Pass ⟨0, 0, 0, 0⟩)
abbrev s_is_whole : Stmt := top 15
abbrev s_count_of : Stmt := top 16
abbrev s_is_name : Stmt := top 17
abbrev s_is_point : Stmt := top 18
abbrev s_is_pair : Stmt := top 19
abbrev s_rises : Stmt := top 20
abbrev s_are_named : Stmt := top 21
abbrev s_is_world : Stmt := top 22
abbrev s_tongue_of : Stmt := top 23
abbrev s_what_has : Stmt := top 24
abbrev s_bears : Stmt := top 25
abbrev s_leads : Stmt := top 26
abbrev s_check_tongue : Stmt := top 27
abbrev s_check_small : Stmt := top 28
abbrev s_check_two : Stmt := top 29
abbrev s_beside : Stmt := top 30
abbrev s_same_marks : Stmt := top 32
abbrev s_agree : Stmt := top 33
abbrev s_joins : Stmt := top 34
abbrev s_with_pair : Stmt := top 36
abbrev s_further : Stmt := top 37
abbrev s_pairings : Stmt := top 38
abbrev s_is_saved : Stmt := top 40
abbrev s_is_answered : Stmt := top 41
abbrev s_next_layer : Stmt := top 42
abbrev s_layers : Stmt := top 43
abbrev s_is_letter : Stmt := top 82
abbrev s_parts_of : Stmt := top 83
abbrev s_letters_here : Stmt := top 84
abbrev s_depth_of : Stmt := top 85
abbrev s_free_of : Stmt := top 86
abbrev s_strange : Stmt := top 87
abbrev s_with_letter : Stmt := top 88
abbrev s_joined : Stmt := top 89
abbrev s_often : Stmt := top 90
abbrev s_for_each : Stmt := top 91
abbrev s_true_at : Stmt := top 92
abbrev s_holds : Stmt := top 93
abbrev s_show_saying : Stmt := top 96
abbrev s_word_end : Stmt := top 97
abbrev s_past : Stmt := top 98
abbrev s_letter_at : Stmt := top 99
abbrev s_read_named : Stmt := top 100
abbrev s_read_many : Stmt := top 101
abbrev s_read_joined : Stmt := top 102
abbrev s_read_at : Stmt := top 103
abbrev s_read_saying : Stmt := top 104
abbrev s_show_world : Stmt := top 107
abbrev s_read_point : Stmt := top 108
abbrev s_read_pair : Stmt := top 109
abbrev s_read_part : Stmt := top 110
abbrev s_read_world : Stmt := top 111
abbrev s_fits_form : Stmt := top 116
abbrev s_law_cell : Stmt := top 121
abbrev s_law_names : Stmt := top 122
abbrev s_law_some : Stmt := top 123
abbrev s_law_pairs : Stmt := top 124
abbrev s_law_tongue : Stmt := top 125
abbrev s_law_world : Stmt := top 126
abbrev s_law_even : Stmt := top 127
abbrev s_law_shaped : Stmt := top 128
abbrev s_law_order : Stmt := top 129
abbrev s_law_turned : Stmt := top 130
abbrev s_law_flipped : Stmt := top 131
abbrev s_law_changed : Stmt := top 132
abbrev s_law_two : Stmt := top 133
abbrev s_law_text : Stmt := top 134
abbrev s_law_letters : Stmt := top 135
abbrev s_law_leaf : Stmt := top 136
abbrev s_law_wrapped : Stmt := top 137
abbrev s_law_joined : Stmt := top 138
abbrev s_law_grown : Stmt := top 139
abbrev s_law_enough : Stmt := top 140
abbrev s_law_true : Stmt := top 141
abbrev s_law_plain : Stmt := top 142
abbrev s_law_closed : Stmt := top 143
abbrev s_law_sum : Stmt := top 144
abbrev s_law_of_tongue : Stmt := top 145
abbrev s_law_alike : Stmt := top 146
abbrev s_law_about : Stmt := top 147
abbrev s_law : Stmt := top 148
abbrev s_Desk_init : Stmt := inClass (top 119) 0
abbrev s_Desk_world_of : Stmt := inClass (top 119) 1
abbrev s_Desk_say : Stmt := inClass (top 119) 2
abbrev s_Desk_about_one : Stmt := inClass (top 119) 3
abbrev s_Desk_about_two : Stmt := inClass (top 119) 4
def d_is_whole : He.DefD := ⟨("is_whole", none), "is_whole", "is_whole", defArgs s_is_whole, defBody s_is_whole, defScope s_is_whole, [], []⟩
def d_count_of : He.DefD := ⟨("count_of", none), "count_of", "count_of", defArgs s_count_of, defBody s_count_of, defScope s_count_of, [], []⟩
def d_is_name : He.DefD := ⟨("is_name", none), "is_name", "is_name", defArgs s_is_name, defBody s_is_name, defScope s_is_name, [], []⟩
def d_is_point : He.DefD := ⟨("is_point", none), "is_point", "is_point", defArgs s_is_point, defBody s_is_point, defScope s_is_point, [], []⟩
def d_is_pair : He.DefD := ⟨("is_pair", none), "is_pair", "is_pair", defArgs s_is_pair, defBody s_is_pair, defScope s_is_pair, [], []⟩
def d_rises : He.DefD := ⟨("rises", none), "rises", "rises", defArgs s_rises, defBody s_rises, defScope s_rises, [], []⟩
def d_are_named : He.DefD := ⟨("are_named", none), "are_named", "are_named", defArgs s_are_named, defBody s_are_named, defScope s_are_named, [], []⟩
def d_is_world : He.DefD := ⟨("is_world", none), "is_world", "is_world", defArgs s_is_world, defBody s_is_world, defScope s_is_world, [], []⟩
def d_tongue_of : He.DefD := ⟨("tongue_of", none), "tongue_of", "tongue_of", defArgs s_tongue_of, defBody s_tongue_of, defScope s_tongue_of, [], []⟩
def d_what_has : He.DefD := ⟨("what_has", none), "what_has", "what_has", defArgs s_what_has, defBody s_what_has, defScope s_what_has, [], []⟩
def d_bears : He.DefD := ⟨("bears", none), "bears", "bears", defArgs s_bears, defBody s_bears, defScope s_bears, [], []⟩
def d_leads : He.DefD := ⟨("leads", none), "leads", "leads", defArgs s_leads, defBody s_leads, defScope s_leads, [], []⟩
def d_check_tongue : He.DefD := ⟨("check_tongue", none), "check_tongue", "check_tongue", defArgs s_check_tongue, defBody s_check_tongue, defScope s_check_tongue, [], []⟩
def d_check_small : He.DefD := ⟨("check_small", none), "check_small", "check_small", defArgs s_check_small, defBody s_check_small, defScope s_check_small, [], []⟩
def d_check_two : He.DefD := ⟨("check_two", none), "check_two", "check_two", defArgs s_check_two, defBody s_check_two, defScope s_check_two, [], []⟩
def d_beside : He.DefD := ⟨("beside", none), "beside", "beside", defArgs s_beside, defBody s_beside, defScope s_beside, [], []⟩
def d_same_marks : He.DefD := ⟨("same_marks", none), "same_marks", "same_marks", defArgs s_same_marks, defBody s_same_marks, defScope s_same_marks, [], []⟩
def d_agree : He.DefD := ⟨("agree", none), "agree", "agree", defArgs s_agree, defBody s_agree, defScope s_agree, [], []⟩
def d_joins : He.DefD := ⟨("joins", none), "joins", "joins", defArgs s_joins, defBody s_joins, defScope s_joins, [], []⟩
def d_with_pair : He.DefD := ⟨("with_pair", none), "with_pair", "with_pair", defArgs s_with_pair, defBody s_with_pair, defScope s_with_pair, [], []⟩
def d_further : He.DefD := ⟨("further", none), "further", "further", defArgs s_further, defBody s_further, defScope s_further, [], []⟩
def d_pairings : He.DefD := ⟨("pairings", none), "pairings", "pairings", defArgs s_pairings, defBody s_pairings, defScope s_pairings, [], []⟩
def d_is_saved : He.DefD := ⟨("is_saved", none), "is_saved", "is_saved", defArgs s_is_saved, defBody s_is_saved, defScope s_is_saved, [], []⟩
def d_is_answered : He.DefD := ⟨("is_answered", none), "is_answered", "is_answered", defArgs s_is_answered, defBody s_is_answered, defScope s_is_answered, [], []⟩
def d_next_layer : He.DefD := ⟨("next_layer", none), "next_layer", "next_layer", defArgs s_next_layer, defBody s_next_layer, defScope s_next_layer, [], []⟩
def d_layers : He.DefD := ⟨("layers", none), "layers", "layers", defArgs s_layers, defBody s_layers, defScope s_layers, [], []⟩
def d_is_letter : He.DefD := ⟨("is_letter", none), "is_letter", "is_letter", defArgs s_is_letter, defBody s_is_letter, defScope s_is_letter, [], []⟩
def d_parts_of : He.DefD := ⟨("parts_of", none), "parts_of", "parts_of", defArgs s_parts_of, defBody s_parts_of, defScope s_parts_of, [], []⟩
def d_letters_here : He.DefD := ⟨("letters_here", none), "letters_here", "letters_here", defArgs s_letters_here, defBody s_letters_here, defScope s_letters_here, [], []⟩
def d_depth_of : He.DefD := ⟨("depth_of", none), "depth_of", "depth_of", defArgs s_depth_of, defBody s_depth_of, defScope s_depth_of, [], []⟩
def d_free_of : He.DefD := ⟨("free_of", none), "free_of", "free_of", defArgs s_free_of, defBody s_free_of, defScope s_free_of, [], []⟩
def d_strange : He.DefD := ⟨("strange", none), "strange", "strange", defArgs s_strange, defBody s_strange, defScope s_strange, [], []⟩
def d_with_letter : He.DefD := ⟨("with_letter", none), "with_letter", "with_letter", defArgs s_with_letter, defBody s_with_letter, defScope s_with_letter, [], []⟩
def d_joined : He.DefD := ⟨("joined", none), "joined", "joined", defArgs s_joined, defBody s_joined, defScope s_joined, [], []⟩
def d_often : He.DefD := ⟨("often", none), "often", "often", defArgs s_often, defBody s_often, defScope s_often, [], []⟩
def d_for_each : He.DefD := ⟨("for_each", none), "for_each", "for_each", defArgs s_for_each, defBody s_for_each, defScope s_for_each, [], []⟩
def d_true_at : He.DefD := ⟨("true_at", none), "true_at", "true_at", defArgs s_true_at, defBody s_true_at, defScope s_true_at, [], []⟩
def d_holds : He.DefD := ⟨("holds", none), "holds", "holds", defArgs s_holds, defBody s_holds, defScope s_holds, [.non], []⟩
def d_show_saying : He.DefD := ⟨("show_saying", none), "show_saying", "show_saying", defArgs s_show_saying, defBody s_show_saying, defScope s_show_saying, [], []⟩
def d_word_end : He.DefD := ⟨("word_end", none), "word_end", "word_end", defArgs s_word_end, defBody s_word_end, defScope s_word_end, [], []⟩
def d_past : He.DefD := ⟨("past", none), "past", "past", defArgs s_past, defBody s_past, defScope s_past, [], []⟩
def d_letter_at : He.DefD := ⟨("letter_at", none), "letter_at", "letter_at", defArgs s_letter_at, defBody s_letter_at, defScope s_letter_at, [], []⟩
def d_read_named : He.DefD := ⟨("read_named", none), "read_named", "read_named", defArgs s_read_named, defBody s_read_named, defScope s_read_named, [], []⟩
def d_read_many : He.DefD := ⟨("read_many", none), "read_many", "read_many", defArgs s_read_many, defBody s_read_many, defScope s_read_many, [], []⟩
def d_read_joined : He.DefD := ⟨("read_joined", none), "read_joined", "read_joined", defArgs s_read_joined, defBody s_read_joined, defScope s_read_joined, [], []⟩
def d_read_at : He.DefD := ⟨("read_at", none), "read_at", "read_at", defArgs s_read_at, defBody s_read_at, defScope s_read_at, [], []⟩
def d_read_saying : He.DefD := ⟨("read_saying", none), "read_saying", "read_saying", defArgs s_read_saying, defBody s_read_saying, defScope s_read_saying, [], []⟩
def d_show_world : He.DefD := ⟨("show_world", none), "show_world", "show_world", defArgs s_show_world, defBody s_show_world, defScope s_show_world, [], []⟩
def d_read_point : He.DefD := ⟨("read_point", none), "read_point", "read_point", defArgs s_read_point, defBody s_read_point, defScope s_read_point, [], []⟩
def d_read_pair : He.DefD := ⟨("read_pair", none), "read_pair", "read_pair", defArgs s_read_pair, defBody s_read_pair, defScope s_read_pair, [], []⟩
def d_read_part : He.DefD := ⟨("read_part", none), "read_part", "read_part", defArgs s_read_part, defBody s_read_part, defScope s_read_part, [], []⟩
def d_read_world : He.DefD := ⟨("read_world", none), "read_world", "read_world", defArgs s_read_world, defBody s_read_world, defScope s_read_world, [], []⟩
def d_fits_form : He.DefD := ⟨("fits_form", none), "fits_form", "fits_form", defArgs s_fits_form, defBody s_fits_form, defScope s_fits_form, [], []⟩
def d_law_cell : He.DefD := ⟨("_law_cell", none), "_law_cell", "_law_cell", defArgs s_law_cell, defBody s_law_cell, defScope s_law_cell, [], []⟩
def d_law_names : He.DefD := ⟨("_law_names", none), "_law_names", "_law_names", defArgs s_law_names, defBody s_law_names, defScope s_law_names, [], []⟩
def d_law_some : He.DefD := ⟨("_law_some", none), "_law_some", "_law_some", defArgs s_law_some, defBody s_law_some, defScope s_law_some, [], []⟩
def d_law_pairs : He.DefD := ⟨("_law_pairs", none), "_law_pairs", "_law_pairs", defArgs s_law_pairs, defBody s_law_pairs, defScope s_law_pairs, [], []⟩
def d_law_tongue : He.DefD := ⟨("_law_tongue", none), "_law_tongue", "_law_tongue", defArgs s_law_tongue, defBody s_law_tongue, defScope s_law_tongue, [], []⟩
def d_law_world : He.DefD := ⟨("_law_world", none), "_law_world", "_law_world", defArgs s_law_world, defBody s_law_world, defScope s_law_world, [], []⟩
def d_law_even : He.DefD := ⟨("_law_even", none), "_law_even", "_law_even", defArgs s_law_even, defBody s_law_even, defScope s_law_even, [], []⟩
def d_law_shaped : He.DefD := ⟨("_law_shaped", none), "_law_shaped", "_law_shaped", defArgs s_law_shaped, defBody s_law_shaped, defScope s_law_shaped, [], []⟩
def d_law_order : He.DefD := ⟨("_law_order", none), "_law_order", "_law_order", defArgs s_law_order, defBody s_law_order, defScope s_law_order, [], []⟩
def d_law_turned : He.DefD := ⟨("_law_turned", none), "_law_turned", "_law_turned", defArgs s_law_turned, defBody s_law_turned, defScope s_law_turned, [], []⟩
def d_law_flipped : He.DefD := ⟨("_law_flipped", none), "_law_flipped", "_law_flipped", defArgs s_law_flipped, defBody s_law_flipped, defScope s_law_flipped, [], []⟩
def d_law_changed : He.DefD := ⟨("_law_changed", none), "_law_changed", "_law_changed", defArgs s_law_changed, defBody s_law_changed, defScope s_law_changed, [], []⟩
def d_law_two : He.DefD := ⟨("_law_two", none), "_law_two", "_law_two", defArgs s_law_two, defBody s_law_two, defScope s_law_two, [], []⟩
def d_law_text : He.DefD := ⟨("_law_text", none), "_law_text", "_law_text", defArgs s_law_text, defBody s_law_text, defScope s_law_text, [], []⟩
def d_law_letters : He.DefD := ⟨("_law_letters", none), "_law_letters", "_law_letters", defArgs s_law_letters, defBody s_law_letters, defScope s_law_letters, [], []⟩
def d_law_leaf : He.DefD := ⟨("_law_leaf", none), "_law_leaf", "_law_leaf", defArgs s_law_leaf, defBody s_law_leaf, defScope s_law_leaf, [], []⟩
def d_law_wrapped : He.DefD := ⟨("_law_wrapped", none), "_law_wrapped", "_law_wrapped", defArgs s_law_wrapped, defBody s_law_wrapped, defScope s_law_wrapped, [], []⟩
def d_law_joined : He.DefD := ⟨("_law_joined", none), "_law_joined", "_law_joined", defArgs s_law_joined, defBody s_law_joined, defScope s_law_joined, [], []⟩
def d_law_grown : He.DefD := ⟨("_law_grown", none), "_law_grown", "_law_grown", defArgs s_law_grown, defBody s_law_grown, defScope s_law_grown, [], []⟩
def d_law_enough : He.DefD := ⟨("_law_enough", none), "_law_enough", "_law_enough", defArgs s_law_enough, defBody s_law_enough, defScope s_law_enough, [], []⟩
def d_law_true : He.DefD := ⟨("_law_true", none), "_law_true", "_law_true", defArgs s_law_true, defBody s_law_true, defScope s_law_true, [], []⟩
def d_law_plain : He.DefD := ⟨("_law_plain", none), "_law_plain", "_law_plain", defArgs s_law_plain, defBody s_law_plain, defScope s_law_plain, [], []⟩
def d_law_closed : He.DefD := ⟨("_law_closed", none), "_law_closed", "_law_closed", defArgs s_law_closed, defBody s_law_closed, defScope s_law_closed, [], []⟩
def d_law_sum : He.DefD := ⟨("_law_sum", none), "_law_sum", "_law_sum", defArgs s_law_sum, defBody s_law_sum, defScope s_law_sum, [], []⟩
def d_law_of_tongue : He.DefD := ⟨("_law_of_tongue", none), "_law_of_tongue", "_law_of_tongue", defArgs s_law_of_tongue, defBody s_law_of_tongue, defScope s_law_of_tongue, [], []⟩
def d_law_alike : He.DefD := ⟨("_law_alike", none), "_law_alike", "_law_alike", defArgs s_law_alike, defBody s_law_alike, defScope s_law_alike, [], []⟩
def d_law_about : He.DefD := ⟨("_law_about", none), "_law_about", "_law_about", defArgs s_law_about, defBody s_law_about, defScope s_law_about, [], []⟩
def d_law : He.DefD := ⟨("law", none), "law", "law", defArgs s_law, defBody s_law, defScope s_law, [], []⟩
def d_Desk_init : He.DefD := ⟨("Desk", some "__init__"), "__init__", "Desk.__init__", defArgs s_Desk_init, defBody s_Desk_init, defScope s_Desk_init, [], []⟩
def d_Desk_world_of : He.DefD := ⟨("Desk", some "world_of"), "world_of", "Desk.world_of", defArgs s_Desk_world_of, defBody s_Desk_world_of, defScope s_Desk_world_of, [], []⟩
def d_Desk_say : He.DefD := ⟨("Desk", some "say"), "say", "Desk.say", defArgs s_Desk_say, defBody s_Desk_say, defScope s_Desk_say, [], []⟩
def d_Desk_about_one : He.DefD := ⟨("Desk", some "about_one"), "about_one", "Desk.about_one", defArgs s_Desk_about_one, defBody s_Desk_about_one, defScope s_Desk_about_one, [], []⟩
def d_Desk_about_two : He.DefD := ⟨("Desk", some "about_two"), "about_two", "Desk.about_two", defArgs s_Desk_about_two, defBody s_Desk_about_two, defScope s_Desk_about_two, [], []⟩
def fnL : List He.DefD := [d_is_whole, d_count_of, d_is_name, d_is_point, d_is_pair, d_rises, d_are_named, d_is_world, d_tongue_of, d_what_has, d_bears, d_leads, d_check_tongue, d_check_small, d_check_two, d_beside, d_same_marks, d_agree, d_joins, d_with_pair, d_further, d_pairings, d_is_saved, d_is_answered, d_next_layer, d_layers, d_is_letter, d_parts_of, d_letters_here, d_depth_of, d_free_of, d_strange, d_with_letter, d_joined, d_often, d_for_each, d_true_at, d_holds, d_show_saying, d_word_end, d_past, d_letter_at, d_read_named, d_read_many, d_read_joined, d_read_at, d_read_saying, d_show_world, d_read_point, d_read_pair, d_read_part, d_read_world, d_fits_form, d_law_cell, d_law_names, d_law_some, d_law_pairs, d_law_tongue, d_law_world, d_law_even, d_law_shaped, d_law_order, d_law_turned, d_law_flipped, d_law_changed, d_law_two, d_law_text, d_law_letters, d_law_leaf, d_law_wrapped, d_law_joined, d_law_grown, d_law_enough, d_law_true, d_law_plain, d_law_closed, d_law_sum, d_law_of_tongue, d_law_alike, d_law_about, d_law, d_Desk_init, d_Desk_world_of, d_Desk_say, d_Desk_about_one, d_Desk_about_two]
def faL : List He.Fa := [.glo "is_whole", .glo "count_of", .glo "is_name", .glo "is_point", .glo "is_pair", .glo "rises", .glo "are_named", .glo "is_world", .glo "tongue_of", .glo "what_has", .glo "bears", .glo "leads", .glo "check_tongue", .glo "check_small", .glo "check_two", .glo "beside", .glo "same_marks", .glo "agree", .glo "joins", .glo "with_pair", .glo "further", .glo "pairings", .glo "is_saved", .glo "is_answered", .glo "next_layer", .glo "layers", .glo "is_letter", .glo "parts_of", .glo "letters_here", .glo "depth_of", .glo "free_of", .glo "strange", .glo "with_letter", .glo "joined", .glo "often", .glo "for_each", .glo "true_at", .glo "holds", .glo "show_saying", .glo "word_end", .glo "past", .glo "letter_at", .glo "read_named", .glo "read_many", .glo "read_joined", .glo "read_at", .glo "read_saying", .glo "show_world", .glo "read_point", .glo "read_pair", .glo "read_part", .glo "read_world", .glo "fits_form", .glo "_law_cell", .glo "_law_names", .glo "_law_some", .glo "_law_pairs", .glo "_law_tongue", .glo "_law_world", .glo "_law_even", .glo "_law_shaped", .glo "_law_order", .glo "_law_turned", .glo "_law_flipped", .glo "_law_changed", .glo "_law_two", .glo "_law_text", .glo "_law_letters", .glo "_law_leaf", .glo "_law_wrapped", .glo "_law_joined", .glo "_law_grown", .glo "_law_enough", .glo "_law_true", .glo "_law_plain", .glo "_law_closed", .glo "_law_sum", .glo "_law_of_tongue", .glo "_law_alike", .glo "_law_about", .glo "law", .glo "Desk", .glo "WORDS", .glo "FORMS", .glo "LONGER", .free "isinstance", .free "int", .free "bool", .free "str", .free "tuple", .free "list", .free "len", .free "all", .free "range", .free "sorted", .free "set", .free "zip", .free "max", .free "min", .free "dict", .str "LETTERS" "abcdefghijklmnopqrstuvwxyz", .int "SMALL" 4, .int "MOST" 8, .str "FIGURES_saytexts" "123456789", .str "FIGURES_worldtexts" "0123456789", .str "FIGURES_desk" "0123456789", .cls "Desk", .noat "Desk" "shelf", .mkr "Desk", .meth "Desk" "world_of", .meth "Desk" "say", .meth "Desk" "about_one", .meth "Desk" "about_two"]
def formsL : List (Str × He.Dv) := [("world", .str "N"), ("show", .str "W"), ("say", .str "W"), ("alike", .str "WWF"), ("part", .str "WW"), ("count", .str "WW"), ("few", .str "WWF"), ("beside", .str "NWW"), ("orbits", .str "W"), ("turn", .str "WW")]
def tsL : List He.Tab := [(fun K => He.ga K "FORMS", ["world", "show", "say", "alike", "part", "count", "few", "beside", "orbits", "turn"])]
def wordsL : List He.Dv := [.str "and", .str "or", .str "not", .str "some", .str "every", .str "least", .str "true", .str "false"]
def longL : List He.Dv := [.str "world", .str "say"]
def exB (K : PySem.W.Frag) : Bool := He.tupB K "WORDS" wordsL && (He.tupB K "LONGER" longL && He.valsB K (He.ga K "FORMS") formsL)
def loose0 : List Str := ["PickError", "NoWorld", "NoTongue", "NoSaying", "NoName", "NoLetter", "TooMany", "NoCount", "NoRow", "LETTERS", "WORDS", "SMALL", "MOST", "is_whole", "count_of", "is_name", "is_point", "is_pair", "rises", "are_named", "is_world", "tongue_of", "what_has", "bears", "leads", "check_tongue", "check_small", "check_two", "beside", "same_marks"]
def loose1 : List Str := ["agree", "joins", "fits", "with_pair", "further", "pairings", "is_saved", "is_answered", "next_layer", "layers", "parted_depths", "depth_in", "parted", "signed", "by_marks", "by_arrows", "by_two", "flat_parting", "all_below", "put_together", "deep_parting", "parting", "partners", "matched", "map_for", "level_of", "next_counted", "counted_depths", "counted_parted", "led_together"]
def loose2 : List Str := ["enough", "more_here", "more_there", "counted_within", "counted_parting", "lifted", "next_round", "few_rounds", "turned_from", "turning", "gathered", "orbits", "is_letter", "parts_of", "letters_here", "depth_of", "free_of", "strange", "with_letter", "joined", "often", "for_each", "true_at", "holds", "FIGURES_saytexts", "show_saying", "word_end", "past", "letter_at", "read_named"]
def loose3 : List Str := ["read_many", "read_joined", "read_at", "read_saying", "FIGURES_worldtexts", "show_world", "read_point", "read_pair", "read_part", "read_world", "FIGURES_desk", "FORMS", "LONGER", "fits_form", "joined_points", "parted_text", "Desk", "_law_cell", "_law_names", "_law_some", "_law_pairs", "_law_tongue", "_law_world", "_law_even", "_law_shaped", "_law_order", "_law_turned", "_law_flipped", "_law_changed", "_law_two"]
def loose4 : List Str := ["_law_text", "_law_letters", "_law_leaf", "_law_wrapped", "_law_joined", "_law_grown", "_law_enough", "_law_true", "_law_plain", "_law_closed", "_law_sum", "_law_of_tongue", "_law_alike", "_law_about"]
def looseL : List Str := loose0 ++ loose1 ++ loose2 ++ loose3 ++ loose4
abbrev R : PySem.W.OpenRow := PySem.W.OpenLaw.row PySem.Challenge.rw_pickalike_k94_whole_worlds_side_by_side
/-! ### the head's facts, over a part of the heap that is laid out first -/
def withK {α : Type} (g : Addr → Option Obj) : List Addr → (PySem.W.Frag → α) → α
  | [], k => k []
  | a :: r, k => match g a with
    | some ⟨c, d, dt, sl⟩ => withK g r fun K => k ((a, ⟨c, d, dt, sl⟩) :: K)
    | none => withK g r k
theorem withK_eq {α : Type} (g : Addr → Option Obj) : ∀ (as : List Addr) (k : PySem.W.Frag → α), withK g as k = k (He.frG g as)
  | [], k => rfl
  | a :: r, k => by
    unfold withK He.frG
    cases e : g a with
    | none =>
      rw [List.filterMap_cons, e]
      exact withK_eq g r k
    | some o =>
      obtain ⟨c, d, dt, sl⟩ := o
      rw [List.filterMap_cons, e]
      exact withK_eq g r _
/-- where the objects lie that the facts look at -/
def asL : List Addr := mainGlobals :: [
  11, 13, 14, 15, 17, 18, 20, 21, 22, 23, 24, 28, 30, 31, 33, 34, 35, 36, 37, 40, 42, 43, 45, 46, 47, 48, 49, 52, 54, 55,
  57, 58, 59, 60, 61, 64, 66, 67, 69, 70, 71, 76, 79, 80, 83, 85, 86, 88, 89, 90, 95, 98, 99, 102, 104, 105, 107, 108, 109, 114,
  117, 118, 121, 123, 124, 126, 127, 128, 133, 136, 137, 140, 142, 143, 145, 146, 147, 152, 155, 156, 159, 160, 165, 166, 172, 173, 177, 178, 184, 185,
  191, 192, 196, 197, 201, 202, 208, 209, 213, 214, 220, 221, 227, 228, 234, 235, 241, 242, 248, 249, 255, 256, 260, 261, 267, 268, 274, 275, 279, 280,
  284, 291, 292, 298, 299, 305, 306, 312, 313, 317, 318, 322, 323, 329, 330, 336, 343, 346, 351, 358, 365, 372, 379, 386, 391, 398, 403, 406, 411, 416,
  423, 430, 437, 442, 447, 450, 455, 462, 469, 474, 479, 486, 489, 494, 499, 504, 511, 516, 519, 524, 529, 536, 543, 544, 550, 551, 557, 558, 562, 563,
  567, 568, 574, 575, 581, 582, 588, 589, 595, 596, 602, 603, 604, 605, 606, 607, 608, 609, 610, 611, 612, 613, 614, 615, 616, 617, 618, 619, 620, 621,
  627, 628, 634, 635, 641, 642, 648, 649, 655, 656, 662, 663, 669, 670, 676, 677, 681, 682, 688, 689, 695, 696, 700, 701, 705, 706, 707, 708, 709, 714,
  715, 719, 726, 730, 731, 733, 734, 735, 740, 741, 747, 748, 754, 755, 759, 760, 764, 765, 767, 768, 773, 778, 779, 783, 784, 790, 791, 797, 798, 804,
  805, 811, 812, 816, 817, 821, 822, 828, 829, 833, 834, 838, 839, 845, 846, 852, 853, 857, 858, 862, 863, 869, 870, 876, 877, 881, 882, 888, 889, 895,
  896, 900, 901, 905, 906, 912, 913, 917, 918, 922, 923, 929, 930, 936, 937, 940, 941, 942]
def obsK (K : PySem.W.Frag) : He.AlX := (He.obsT faL fnL tsL K, exB K)
def obsP (g : Addr → Option Obj) : He.AlX := withK g asL obsK
def hk : PySem.W.Hook where
  α := He.AlX
  obs := fun s => obsP s.heap.get?
  val := fun w => (He.valT fnL tsL w, true)
  says := fun w h => ∃ K : PySem.W.Frag, K.In h ∧ He.SaysT faL fnL tsL w K ∧ exB K = true
  of := fun w s e => by
    have e2 : obsK (He.frG s.heap.get? asL) = (He.valT fnL tsL w, true) := (withK_eq s.heap.get? asL obsK).symm.trans e
    exact ⟨_, He.frG_in, congrArg (fun z : He.AlX => z.1) e2, congrArg (fun z : He.AlX => z.2) e2⟩
  keeps := fun _ _ _ ⟨K, hK, c⟩ k => ⟨K, PySem.W.Frag.In.keeps hK k, c⟩
def ob (s : PySem.W.SharedT) : He.AlX := obsP (HandSHeadRun.getT s)
theorem ob_eq (s : PySem.W.SharedT) : ob s = hk.obs s.abs := by
  have e : HandSHeadRun.getT s = s.abs.heap.get? := funext (HandSHeadRun.getT_eq s)
  show obsP (HandSHeadRun.getT s) = obsP s.abs.heap.get?
  rw [e]
end Pk
end
section
-- PkHeadRun
set_option Elab.async false
set_option maxRecDepth 100000
set_option maxHeartbeats 0
namespace Pk
open PySem PySem.W PySem.Spec PySem.Calls PyProof.Rows L2 HandSHeadRun
abbrev VQ : Program := PySem.W.view R.prog [148]
noncomputable abbrev endR (w : World) (os : OsState) : Option SharedT := HandSHeadRun.endF (HandSHeadRun.stepQ (HandSHeadRun.denQ HandSHeadRun.tabQ) R.prog w) 9000 R.prog w os
theorem run1F (w : World) (os : OsState) : (endR (w.withFollow "special-get-raises" false) os).map (fun s => (looksF R.prog (boot_heap (w.withFollow "special-get-raises" false).params) s.abs, seenQ VQ looseL (importedModules R.prog.main.body) (fun s => xlAt VQ [] s && recOk R.toRowW.records s) s.abs)) = some (true, openGood VQ looseL) := by kernel_rfl
theorem run2F (w : World) (os : OsState) : (endR (w.withFollow "special-get-raises" false) os).map ob = some (hk.val (w.withFollow "special-get-raises" false)) := by kernel_rfl
theorem run1T (w : World) (os : OsState) : (endR (w.withFollow "special-get-raises" true) os).map (fun s => (looksF R.prog (boot_heap (w.withFollow "special-get-raises" true).params) s.abs, seenQ VQ looseL (importedModules R.prog.main.body) (fun s => xlAt VQ [] s && recOk R.toRowW.records s) s.abs)) = some (true, openGood VQ looseL) := by kernel_rfl
theorem run2T (w : World) (os : OsState) : (endR (w.withFollow "special-get-raises" true) os).map ob = some (hk.val (w.withFollow "special-get-raises" true)) := by kernel_rfl
theorem map3 {σ α β γ : Type} {x : Option σ} {f : σ → α} {g : σ → β} {h : σ → γ} {a : α} {b : β} {c : γ} (h1 : x.map (fun s => (f s, g s)) = some (a, b)) (h2 : x.map h = some c) : x.map (fun s => (f s, g s, h s)) = some (a, b, c) := by
  cases x with
  | none => cases h1
  | some s =>
    simp only [Option.map_some, Option.some.injEq, Prod.mk.injEq] at h1 h2 ⊢
    exact ⟨h1.1, h1.2, h2⟩
theorem run (w : World) : HandSHeadRun.RunEq R VQ hk ob 9000 looseL w :=
  byRow2 "special-get-raises" (P := fun w => HandSHeadRun.RunEq R VQ hk ob 9000 looseL w) (fun w os => map3 (run1F w os) (run2F w os)) (fun w os => map3 (run1T w os) (run2T w os)) w
end Pk
end
section
-- PkEarly
set_option Elab.async false
set_option linter.all false
set_option maxRecDepth 100000
set_option maxHeartbeats 0
namespace Pk
open PySem PySem.W PySem.Calls PyProof.Rows
theorem early (hc : WalkO (view (OpenLaw.row PySem.Challenge.rw_pickalike_k94_whole_worlds_side_by_side).prog [148]) looseL (XL (view (OpenLaw.row PySem.Challenge.rw_pickalike_k94_whole_worlds_side_by_side).prog [148]) []) hk.says (OpenLaw.row PySem.Challenge.rw_pickalike_k94_whole_worlds_side_by_side).toRowW (HandSHeadRun.topDef (OpenLaw.row PySem.Challenge.rw_pickalike_k94_whole_worlds_side_by_side).prog 148) [] fun f vs => PySem.call f vs) :
    PySem.Challenge.rw_pickalike_k94_whole_worlds_side_by_side.Holds := by
  w_on; o_law
  refine HandSHeadRun.head_any (r := OpenLaw.row PySem.Challenge.rw_pickalike_k94_whole_worlds_side_by_side) (q := view (OpenLaw.row PySem.Challenge.rw_pickalike_k94_whole_worlds_side_by_side).prog [148]) (H := hk) (ob := ob) (M := 9000) (loose := looseL)
    (d := HandSHeadRun.topDef (OpenLaw.row PySem.Challenge.rw_pickalike_k94_whole_worlds_side_by_side).prog 148) (kwd := []) ob_eq
    (by kernel_rfl) (fun s => by kernel_rfl) run (by kernel_rfl) (by kernel_rfl) (by kernel_rfl) (by rfl) (by first | assumption | decide +kernel) (by decide +kernel) ⟨rfl, rfl, rfl, rfl, rfl, by decide +kernel⟩ ?hw hc
  case hw => w_witness2
end Pk
end
section
-- PkFn
namespace Pk
inductive Fn where
  | is_whole | count_of | is_name | is_point | is_pair | rises | are_named | is_world | tongue_of | what_has
  | bears | leads | check_tongue | check_small | check_two | beside | same_marks | agree | joins | with_pair
  | further | pairings | is_saved | is_answered | next_layer | layers | is_letter | parts_of | letters_here | depth_of
  | free_of | strange | with_letter | joined | often | for_each | true_at | holds | show_saying | word_end
  | past | letter_at | read_named | read_many | read_joined | read_at | read_saying | show_world | read_point | read_pair
  | read_part | read_world | fits_form | law_cell | law_names | law_some | law_pairs | law_tongue | law_world | law_even
  | law_shaped | law_order | law_turned | law_flipped | law_changed | law_two | law_text | law_letters | law_leaf | law_wrapped
  | law_joined | law_grown | law_enough | law_true | law_plain | law_closed | law_sum | law_of_tongue | law_alike | law_about
  | law | desk_init | desk_world_of | desk_say | desk_about_one | desk_about_two
  deriving DecidableEq, Repr
inductive Glob where
  | LETTERS | WORDS | SMALL | MOST | FIGURES_saytexts | FIGURES_worldtexts | FIGURES_desk | LONGER
  deriving DecidableEq, Repr
/-- where a def stands in the text: its name, its class's name ahead of it -/
def fnAt : Fn → PySem.Str × Option PySem.Str
  | .is_whole => ("is_whole", none)
  | .count_of => ("count_of", none)
  | .is_name => ("is_name", none)
  | .is_point => ("is_point", none)
  | .is_pair => ("is_pair", none)
  | .rises => ("rises", none)
  | .are_named => ("are_named", none)
  | .is_world => ("is_world", none)
  | .tongue_of => ("tongue_of", none)
  | .what_has => ("what_has", none)
  | .bears => ("bears", none)
  | .leads => ("leads", none)
  | .check_tongue => ("check_tongue", none)
  | .check_small => ("check_small", none)
  | .check_two => ("check_two", none)
  | .beside => ("beside", none)
  | .same_marks => ("same_marks", none)
  | .agree => ("agree", none)
  | .joins => ("joins", none)
  | .with_pair => ("with_pair", none)
  | .further => ("further", none)
  | .pairings => ("pairings", none)
  | .is_saved => ("is_saved", none)
  | .is_answered => ("is_answered", none)
  | .next_layer => ("next_layer", none)
  | .layers => ("layers", none)
  | .is_letter => ("is_letter", none)
  | .parts_of => ("parts_of", none)
  | .letters_here => ("letters_here", none)
  | .depth_of => ("depth_of", none)
  | .free_of => ("free_of", none)
  | .strange => ("strange", none)
  | .with_letter => ("with_letter", none)
  | .joined => ("joined", none)
  | .often => ("often", none)
  | .for_each => ("for_each", none)
  | .true_at => ("true_at", none)
  | .holds => ("holds", none)
  | .show_saying => ("show_saying", none)
  | .word_end => ("word_end", none)
  | .past => ("past", none)
  | .letter_at => ("letter_at", none)
  | .read_named => ("read_named", none)
  | .read_many => ("read_many", none)
  | .read_joined => ("read_joined", none)
  | .read_at => ("read_at", none)
  | .read_saying => ("read_saying", none)
  | .show_world => ("show_world", none)
  | .read_point => ("read_point", none)
  | .read_pair => ("read_pair", none)
  | .read_part => ("read_part", none)
  | .read_world => ("read_world", none)
  | .fits_form => ("fits_form", none)
  | .law_cell => ("_law_cell", none)
  | .law_names => ("_law_names", none)
  | .law_some => ("_law_some", none)
  | .law_pairs => ("_law_pairs", none)
  | .law_tongue => ("_law_tongue", none)
  | .law_world => ("_law_world", none)
  | .law_even => ("_law_even", none)
  | .law_shaped => ("_law_shaped", none)
  | .law_order => ("_law_order", none)
  | .law_turned => ("_law_turned", none)
  | .law_flipped => ("_law_flipped", none)
  | .law_changed => ("_law_changed", none)
  | .law_two => ("_law_two", none)
  | .law_text => ("_law_text", none)
  | .law_letters => ("_law_letters", none)
  | .law_leaf => ("_law_leaf", none)
  | .law_wrapped => ("_law_wrapped", none)
  | .law_joined => ("_law_joined", none)
  | .law_grown => ("_law_grown", none)
  | .law_enough => ("_law_enough", none)
  | .law_true => ("_law_true", none)
  | .law_plain => ("_law_plain", none)
  | .law_closed => ("_law_closed", none)
  | .law_sum => ("_law_sum", none)
  | .law_of_tongue => ("_law_of_tongue", none)
  | .law_alike => ("_law_alike", none)
  | .law_about => ("_law_about", none)
  | .law => ("law", none)
  | .desk_init => ("Desk", some "__init__")
  | .desk_world_of => ("Desk", some "world_of")
  | .desk_say => ("Desk", some "say")
  | .desk_about_one => ("Desk", some "about_one")
  | .desk_about_two => ("Desk", some "about_two")
def globStr : Glob → PySem.Str
  | .LETTERS => "LETTERS"
  | .WORDS => "WORDS"
  | .SMALL => "SMALL"
  | .MOST => "MOST"
  | .FIGURES_saytexts => "FIGURES_saytexts"
  | .FIGURES_worldtexts => "FIGURES_worldtexts"
  | .FIGURES_desk => "FIGURES_desk"
  | .LONGER => "LONGER"
def np : Fn → Nat
  | .is_whole => 1
  | .count_of => 3
  | .is_name => 1
  | .is_point => 2
  | .is_pair => 2
  | .rises => 1
  | .are_named => 3
  | .is_world => 1
  | .tongue_of => 1
  | .what_has => 2
  | .bears => 3
  | .leads => 4
  | .check_tongue => 2
  | .check_small => 1
  | .check_two => 2
  | .beside => 2
  | .same_marks => 3
  | .agree => 4
  | .joins => 4
  | .with_pair => 2
  | .further => 3
  | .pairings => 3
  | .is_saved => 3
  | .is_answered => 4
  | .next_layer => 3
  | .layers => 3
  | .is_letter => 1
  | .parts_of => 1
  | .letters_here => 1
  | .depth_of => 1
  | .free_of => 1
  | .strange => 2
  | .with_letter => 3
  | .joined => 4
  | .often => 5
  | .for_each => 4
  | .true_at => 3
  | .holds => 3
  | .show_saying => 1
  | .word_end => 2
  | .past => 3
  | .letter_at => 2
  | .read_named => 3
  | .read_many => 3
  | .read_joined => 2
  | .read_at => 2
  | .read_saying => 1
  | .show_world => 1
  | .read_point => 1
  | .read_pair => 1
  | .read_part => 1
  | .read_world => 1
  | .fits_form => 1
  | .law_cell => 2
  | .law_names => 2
  | .law_some => 2
  | .law_pairs => 2
  | .law_tongue => 1
  | .law_world => 4
  | .law_even => 2
  | .law_shaped => 4
  | .law_order => 2
  | .law_turned => 2
  | .law_flipped => 2
  | .law_changed => 2
  | .law_two => 3
  | .law_text => 1
  | .law_letters => 1
  | .law_leaf => 3
  | .law_wrapped => 3
  | .law_joined => 2
  | .law_grown => 3
  | .law_enough => 3
  | .law_true => 3
  | .law_plain => 1
  | .law_closed => 2
  | .law_sum => 2
  | .law_of_tongue => 2
  | .law_alike => 4
  | .law_about => 3
  | .law => 1
  | .desk_init => 1
  | .desk_world_of => 2
  | .desk_say => 2
  | .desk_about_one => 3
  | .desk_about_two => 4
end Pk
end
section
-- PkLang
set_option linter.all false
/-! A small language of my own: data, expressions, statements; what they come to. -/
namespace Pk
open PySem

/-! ### data -/
inductive D where
  | non
  | bl (b : Bool)
  | int (i : Int)
  | str (l : List Nat)
  | tup (l : List D)
  | lst (l : List D)
  | scr (l : List Int)
  | dic (l : List (List Nat × Int))
  | lev (l : List (List (Int × Int)))
  | fn (f : Fn)
  | desk

mutual
def toPy : D → PyData
  | .non => .none
  | .bl b => .bool b
  | .int i => .int i
  | .str l => .str ⟨l.toArray⟩
  | .tup l => .tuple (toPyL l)
  | .lst l => .list (toPyL l)
  | _ => .none
def toPyL : List D → List PyData
  | [] => []
  | d :: r => toPy d :: toPyL r
end
mutual
/-- no dict, def, desk, script within -/
def simp? : D → Bool
  | .non => true
  | .bl _ => true
  | .int _ => true
  | .str _ => true
  | .tup l => simpL l
  | .lst l => simpL l
  | _ => false
def simpL : List D → Bool
  | [] => true
  | d :: r => simp? d && simpL r
end
/-- data that == and in take -/
def shp (d : D) : Bool := simp? d && SeqAt.shaped (toPy d)

def asPair : D → Option (Int × Int)
  | .tup [.int a, .int b] => some (a, b)
  | _ => none
def asPairs : D → Option (List (Int × Int))
  | .tup l => l.mapM asPair
  | _ => none
def ofPair (p : Int × Int) : D := .tup [.int p.1, .int p.2]
def asStrs : List D → Option (List (List Nat))
  | [] => some []
  | .str l :: r => (asStrs r).map (l :: ·)
  | _ :: _ => none
def asInts : List D → Option (List Int)
  | [] => some []
  | .int l :: r => (asInts r).map (l :: ·)
  | _ :: _ => none
def asBls : List D → Option (List Bool)
  | [] => some []
  | .bl l :: r => (asBls r).map (l :: ·)
  | _ :: _ => none
def asPrs : List D → Option (List (Int × Int))
  | [] => some []
  | d :: r => match asPair d with
    | some p => (asPrs r).map (p :: ·)
    | none => none

/-! ### sorting -/
section
variable {α : Type} (lt : α → α → Bool)
/-- into a rising list, once -/
def insU [DecidableEq α] (x : α) : List α → List α
  | [] => [x]
  | y :: r => if x = y then y :: r else if lt x y then x :: y :: r else y :: insU x r
def sortU [DecidableEq α] (l : List α) : List α := l.foldr (insU lt) []
/-- into a rising list -/
def insD (x : α) : List α → List α
  | [] => [x]
  | y :: r => if lt y x then y :: insD x r else x :: y :: r
def sortD (l : List α) : List α := l.foldr (insD lt) []
end
def ltS (a b : List Nat) : Bool := decide (a < b)
def ltI (a b : Int) : Bool := decide (a < b)
def ltP (a b : Int × Int) : Bool := decide (a.1 < b.1 ∨ (a.1 = b.1 ∧ a.2 < b.2))

/-! ### the forms -/
inductive Bop where
  | add | sub | mul | mod | fdiv | pow | shr | land
inductive Cop where
  | eq | ne | lt | le | gt | ge | isin | notin | isN | notN
inductive Ty where
  | tint | tbool | tstr | ttup
inductive B1 where
  | len1 | int1 | str1 | tuple1 | list1 | sorted1 | all1 | maxd | dict1
inductive B2 where
  | max2 | min2
inductive MT where
  | one (i : Nat)
  | many (l : List Nat)
mutual
inductive ME where
  | never
  | var (i : Nat)
  | int (n : Int)
  | str (l : List Nat)
  | bl (b : Bool)
  | non
  | glo (g : Glob)
  | fnv (f : Fn)
  | bin (o : Bop) (a b : ME)
  | neg (a : ME)
  | cmp (o : Cop) (a b : ME)
  | and2 (a b : ME)
  | or2 (a b : ME)
  | not1 (a : ME)
  | tup (l : MEs)
  | lst (l : MEs)
  | ix (a b : ME)
  | sl (a : ME) (lo hi : MO)
  | call (f : Fn) (l : MEs)
  | callv (i : Nat) (l : MEs)
  | meth (f : Fn) (o : ME) (l : MEs)
  | b1 (b : B1) (a : ME)
  | b2 (b : B2) (a c : ME)
  | lrng (a : ME)
  | sset (a : ME)
  | isi (a : ME) (t : Ty)
  | split (a b : ME)
  | join (a b : ME)
  | part (a b : ME)
  | fget (a : ME)
  | fix (a : ME)
  | disp (k1 v1 k2 v2 : List Nat) (a : ME)
  | fstr (p : List Nat) (a : ME) (q : List Nat) (b : ME)
  | comp (tst : Bool) (elt : ME) (t : MT) (it : MI) (c : ME)
  | dnew
  | lvnew
  | shNot (a : ME)
  | shGet (a : ME)
inductive MEs where
  | nil
  | cons (e : ME) (r : MEs)
inductive MO where
  | no
  | ok (e : ME)
inductive MI where
  | val (e : ME)
  | r1 (a : ME)
  | r2 (a b : ME)
  | r3 (a b c : ME)
  | zip (a b : ME)
end
mutual
inductive MS where
  | never
  | ex (e : ME)
  | set (i : Nat) (e : ME)
  | setOwn (i : Nat) (e : ME)
  | setLc (i : Nat) (e : ME)
  | setT (l : List Nat) (e : ME)
  | ret (e : ME)
  | iff (c : ME) (t f : MSs)
  | for_ (t : MT) (it : MI) (b : MSs)
  | while_ (c : ME) (b : MSs)
  | app (i : Nat) (e : ME)
  | ext (i : Nat) (e : ME)
  | put (i : Nat) (k e : ME)
  | dput (i : Nat) (k e : ME)
  | lput (i : Nat) (k e : ME)
  | shPut (k e : ME)
  | frz (i : Nat)
inductive MSs where
  | nil
  | cons (s : MS) (r : MSs)
end

/-! ### what operations come to -/
def binD : Bop → D → D → Option D
  | .add, .int i, .int j => some (.int (i + j))
  | .add, .str a, .str b => if a.length + b.length ≤ sizeLine then some (.str (a ++ b)) else none
  | .add, .tup a, .tup b => if a.length + b.length ≤ sizeLine then some (.tup (a ++ b)) else none
  | .add, .lst a, .lst b => if a.length + b.length ≤ sizeLine then some (.lst (a ++ b)) else none
  | .sub, .int i, .int j => some (.int (i - j))
  | .mul, .int i, .int j => if (-(2 ^ 64) < i ∧ i < 2 ^ 64) ∨ (-(2 ^ 64) < j ∧ j < 2 ^ 64) then some (.int (i * j)) else none
  | .mul, .str [c], .int j => if 0 ≤ j ∧ j < 100 then some (.str (List.replicate j.toNat c)) else none
  | .mod, .int i, .int j => if 0 < j then some (.int (i % j)) else none
  | .fdiv, .int i, .int j => if 0 < j ∧ j < 1073741824 then some (.int (i / j)) else none
  | .pow, .int i, .int j => if 0 ≤ j ∧ j ≤ 1000000 ∧ i.natAbs < 2 ^ 64 then some (.int (i ^ j.toNat)) else none
  | .shr, .int i, .int j => if 0 ≤ j then some (.int (i / 2 ^ j.toNat)) else none
  | .land, .int i, .int j => some (.int (Builtin.bitAnd i j))
  | _, _, _ => none
def eqD (a b : D) : Option Bool := match a, b with
  | .int i, .int j => some (decide (i = j))
  | .str i, .str j => some (decide (i = j))
  | .bl i, .bl j => some (decide (i = j))
  | a, b => if shp a = true ∧ shp b = true then some (PyData.eqv (toPy a) (toPy b)) else none
def inD (x y : D) : Option Bool := match x, y with
  | .str [c], .str z => some (decide (c ∈ z))
  | x, .lst l => if shp x = true ∧ shp (.lst l) = true then some ((toPyL l).any fun z => PyData.eqv z (toPy x)) else none
  | x, .tup l => if shp x = true ∧ shp (.tup l) = true then some ((toPyL l).any fun z => PyData.eqv z (toPy x)) else none
  | x, .lev ks => (asPairs x).map fun k => decide (k ∈ ks)
  | _, _ => none
def cmpD : Cop → D → D → Option D
  | .eq, a, b => (eqD a b).map .bl
  | .ne, a, b => (eqD a b).map fun c => .bl (!c)
  | .lt, .int i, .int j => some (.bl (decide (i < j)))
  | .lt, .str i, .str j => some (.bl (ltS i j))
  | .lt, .tup [.int a, .int b], .tup [.int c, .int d] => some (.bl (ltP (a, b) (c, d)))
  | .le, .int i, .int j => some (.bl (decide (i ≤ j)))
  | .gt, .int i, .int j => some (.bl (decide (j < i)))
  | .ge, .int i, .int j => some (.bl (decide (j ≤ i)))
  | .isin, a, b => (inD a b).map .bl
  | .notin, a, b => (inD a b).map fun c => .bl (!c)
  | .isN, a, .non => some (.bl (match a with | .non => true | _ => false))
  | .notN, a, .non => some (.bl (match a with | .non => false | _ => true))
  | _, _, _ => none
def lookS {α : Type} (k : List Nat) : List (List Nat × α) → Option α
  | [] => none
  | (x, v) :: r => if x = k then some v else lookS k r
def putS {α : Type} (k : List Nat) (v : α) (l : List (List Nat × α)) : List (List Nat × α) :=
  if (l.any fun p => decide (p.1 = k)) = true then l.map (fun p => if p.1 = k then (p.1, v) else p) else l ++ [(k, v)]
def ixD : D → D → Option D
  | .tup l, .int i => L2.atI l i
  | .lst l, .int i => L2.atI l i
  | .scr l, .int i => (L2.atI l i).map .int
  | .str l, .int i => if l.length ≤ sizeLine then (L2.atI l i).map fun c => .str [c] else none
  | .dic l, .str k => (lookS k l).map .int
  | _, _ => none
def cutL {α : Type} (xs : List α) (lo hi : Option Int) : List α := (xs.drop (HT.sIx xs.length 0 lo)).take (HT.sIx xs.length xs.length hi - HT.sIx xs.length 0 lo)
def slD : D → Option Int → Option Int → Option D
  | .tup l, lo, hi => some (.tup (cutL l lo hi))
  | .lst l, lo, hi => some (.lst (cutL l lo hi))
  | .scr l, lo, hi => some (.lst ((cutL l lo hi).map .int))
  | .str l, lo, hi => if l.length ≤ sizeLine then some (.str (cutL l lo hi)) else none
  | _, _, _ => none
def maxL : List Int → Int
  | [] => 0
  | [x] => x
  | x :: r => max x (maxL r)
def b1D : B1 → D → Option D
  | .len1, .str l => if l.length ≤ sizeLine then some (.int l.length) else none
  | .len1, .tup l => some (.int l.length)
  | .len1, .lst l => some (.int l.length)
  | .len1, .scr l => some (.int l.length)
  | .int1, .bl b => some (.int (if b then 1 else 0))
  | .int1, .str [c] => if 48 ≤ c ∧ c ≤ 57 then some (.int ((c - 48 : Nat) : Int)) else none
  | .str1, .int i => if 0 ≤ i ∧ i ≤ 9 then some (.str [48 + i.toNat]) else none
  | .tuple1, .lst l => some (.tup l)
  | .tuple1, .tup l => some (.tup l)
  | .list1, .lst l => some (.lst l)
  | .list1, .tup l => some (.lst l)
  | .sorted1, .lst l => if l.length < 64 then
      match asInts l, asStrs l, asPrs l with
      | some ns, _, _ => some (.lst ((sortD ltI ns).map .int))
      | none, some ns, _ => some (.lst ((sortD ltS ns).map .str))
      | none, none, some ns => if ns.all (fun p => decide (0 ≤ p.1 ∧ p.1 < 64 ∧ 0 ≤ p.2 ∧ p.2 < 64)) = true then some (.lst ((sortD ltP ns).map ofPair)) else none
      | none, none, none => none
    else none
  | .all1, .lst l => (asBls l).map fun bs => .bl (bs.all id)
  | .maxd, .lst l => (asInts l).map fun ns => .int (maxL ns)
  | .dict1, .dic l => some (.dic l)
  | _, _ => none
def b2D : B2 → D → D → Option D
  | .max2, .int i, .int j => some (.int (if j > i then j else i))
  | .min2, .int i, .int j => some (.int (if j < i then j else i))
  | _, _, _ => none
/-- sorted(set(..)) -/
def ssetD : D → Option D
  | .lst l => if l.length < 64 then (asStrs l).map fun ns => .lst ((sortU ltS ns).map .str) else none
  | .tup l => if l.length < 64 then (asPrs l).bind fun ns => if ns.all (fun p => decide (0 ≤ p.1 ∧ p.1 < 64 ∧ 0 ≤ p.2 ∧ p.2 < 64)) = true then some (.lst ((sortU ltP ns).map ofPair)) else none else none
  | _ => none
def isiD : Ty → D → Bool
  | .tint, .int _ => true
  | .tint, .bl _ => true
  | .tbool, .bl _ => true
  | .tstr, .str _ => true
  | .ttup, .tup _ => true
  | _, _ => false
def strL (z : Str) : List Nat := z.cps.toList
def splitD : D → D → Option D
  | .str a, .str b => if b ≠ [] ∧ a.length + 2 ≤ sizeLine then some (.lst ((Txt.split ⟨a.toArray⟩ ⟨b.toArray⟩).map fun z => .str (strL z))) else none
  | _, _ => none
def joinSize (n : Nat) : List (List Nat) → Nat
  | [] => 0
  | x :: r => x.length + n + joinSize n r
def joinL (s : List Nat) : List (List Nat) → List Nat
  | [] => []
  | [x] => x
  | x :: y :: r => x ++ s ++ joinL s (y :: r)
def joinD : D → D → Option D
  | .str a, .lst l => (asStrs l).bind fun ys => if joinSize a.length ys ≤ 1000000 then some (.str (joinL a ys)) else none
  | _, _ => none
/-- about the first of a sign -/
def partL (c : Nat) : List Nat → List Nat × List Nat × List Nat
  | [] => ([], [], [])
  | x :: r => if x = c then ([], [c], r) else let p := partL c r; (x :: p.1, p.2.1, p.2.2)
def partD : D → D → Option D
  | .str a, .str [c] => if a.length ≤ sizeLine then some (.tup [.str (partL c a).1, .str (partL c a).2.1, .str (partL c a).2.2]) else none
  | _, _ => none
end Pk
end
section
-- PkEval
set_option linter.all false
/-! What the forms come to. -/
namespace Pk
open PySem

inductive Sl where
  | un
  | p (d : D)
  | o (d : D)
abbrev En := List Sl
abbrev Sh := List (List Nat × D)
inductive Out where
  | nx (ρ : En) (s : Sh)
  | rt (d : D) (s : Sh)
abbrev Cl := Fn → List D → Sh → Option (D × Sh)

def asc (s : String) : List Nat := s.toList.map Char.toNat
def globD : Glob → D
  | .LETTERS => .str [97, 98, 99, 100, 101, 102, 103, 104, 105, 106, 107, 108, 109, 110, 111, 112, 113, 114, 115, 116, 117, 118, 119, 120, 121, 122]
  | .WORDS => .tup [.str [97, 110, 100], .str [111, 114], .str [110, 111, 116], .str [115, 111, 109, 101], .str [101, 118, 101, 114, 121], .str [108, 101, 97, 115, 116], .str [116, 114, 117, 101], .str [102, 97, 108, 115, 101]]
  | .SMALL => .int 4
  | .MOST => .int 8
  | .FIGURES_saytexts => .str [49, 50, 51, 52, 53, 54, 55, 56, 57]
  | .FIGURES_worldtexts => .str [48, 49, 50, 51, 52, 53, 54, 55, 56, 57]
  | .FIGURES_desk => .str [48, 49, 50, 51, 52, 53, 54, 55, 56, 57]
  | .LONGER => .tup [.str [119, 111, 114, 108, 100], .str [115, 97, 121]]
def formsD : List (List Nat × List Nat) :=
  [([119, 111, 114, 108, 100], [78]), ([115, 104, 111, 119], [87]), ([115, 97, 121], [87]), ([97, 108, 105, 107, 101], [87, 87, 70]), ([112, 97, 114, 116], [87, 87]),
   ([99, 111, 117, 110, 116], [87, 87]), ([102, 101, 119], [87, 87, 70]), ([98, 101, 115, 105, 100, 101], [78, 87, 87]), ([111, 114, 98, 105, 116, 115], [87]), ([116, 117, 114, 110], [87, 87])]
/-- values that a def's written arguments lack -/
def dfl : Fn → List D
  | .holds => [.non]
  | _ => []

/-- a slot that may hold a list that still grows: read, not kept -/
def bor (ρ : En) (s : Sh) (r : Option (D × Sh)) : ME → Option (D × Sh)
  | .var i => match ρ[i]? with
    | some (.o (.lst l)) => some (.lst l, s)
    | _ => r
  | _ => r
def tsl : MT → List Nat
  | .one i => [i]
  | .many l => l
def wipeE (ρ : En) : List Nat → En
  | [] => ρ
  | v :: vs => (wipeE ρ vs).set v .un
def noOwn (ρ : En) (l : List Nat) : Bool := l.all fun i => match ρ[i]? with
  | some (.o _) => false
  | _ => true
def bindMany : List Nat → List D → En → Option En
  | [], [], ρ => some ρ
  | i :: is, d :: ds, ρ => bindMany is ds (ρ.set i (.p d))
  | _, _, _ => none
def bindT : MT → D → En → Option En
  | .one i, d, ρ => some (ρ.set i (.p d))
  | .many l, .tup ds, ρ => bindMany l ds ρ
  | _, _, _ => none
/-- what is walked -/
def itemsD : D → Option (List D)
  | .lst l => some l
  | .tup l => some l
  | .str l => some (l.map fun c => .str [c])
  | _ => none
def rngL (a b : Int) : List D := (List.range (b - a).toNat).map fun i => .int (a + (i : Nat))
def rngC (a b c : Int) : List D := (List.range ((b - a + c - 1) / c).toNat).map fun i => .int (a + (i : Nat) * c)
def small? (i : Int) : Bool := decide (-1000000 < i ∧ i < 1000000)
def zipD : List D → List D → List D
  | x :: xs, y :: ys => .tup [x, y] :: zipD xs ys
  | _, _ => []
/-- the def's first argument is the desk -/
def deskAt (ρ : En) : Bool := match (ρ[0]? : Option Sl) with
  | some (.p .desk) => true
  | _ => false
def compL (f : D → Sh → Option (Option D × Sh)) : List D → Sh → Option (List D × Sh)
  | [], s => some ([], s)
  | x :: r, s => match f x s with
    | some (o, s1) => match compL f r s1 with
      | some (l, s2) => some ((match o with | some d => d :: l | none => l), s2)
      | none => none
    | none => none
def forL (f : D → En → Sh → Option Out) : List D → En → Sh → Option Out
  | [], ρ, s => some (.nx ρ s)
  | x :: r, ρ, s => match f x ρ s with
    | some (.nx ρ1 s1) => forL f r ρ1 s1
    | o => o
def whileL (c : En → Sh → Option (D × Sh)) (f : En → Sh → Option Out) : Nat → En → Sh → Option Out
  | 0, _, _ => none
  | n + 1, ρ, s => match c ρ s with
    | some (.bl true, s1) => match f ρ s1 with
      | some (.nx ρ1 s2) => whileL c f n ρ1 s2
      | o => o
    | some (.bl false, s1) => some (.nx ρ s1)
    | _ => none

section
variable (cl : Cl)
mutual
def evE : ME → En → Sh → Option (D × Sh)
  | .never, _, _ => none
  | .var i, ρ, s => match ρ[i]? with
    | some (.p d) => some (d, s)
    | _ => none
  | .int n, _, s => some (.int n, s)
  | .str l, _, s => some (.str l, s)
  | .bl b, _, s => some (.bl b, s)
  | .non, _, s => some (.non, s)
  | .glo g, _, s => some (globD g, s)
  | .fnv f, _, s => some (.fn f, s)
  | .bin o a b, ρ, s => match evE a ρ s with
    | some (x, s1) => match evE b ρ s1 with
      | some (y, s2) => (binD o x y).map fun z => (z, s2)
      | none => none
    | none => none
  | .neg a, ρ, s => match evE a ρ s with
    | some (.int i, s1) => some (.int (-i), s1)
    | _ => none
  | .cmp o a b, ρ, s => match bor ρ s (evE a ρ s) a with
    | some (x, s1) => match bor ρ s1 (evE b ρ s1) b with
      | some (y, s2) => (cmpD o x y).map fun z => (z, s2)
      | none => none
    | none => none
  | .and2 a b, ρ, s => match evE a ρ s with
    | some (.bl true, s1) => match evE b ρ s1 with
      | some (.bl c, s2) => some (.bl c, s2)
      | _ => none
    | some (.bl false, s1) => some (.bl false, s1)
    | _ => none
  | .or2 a b, ρ, s => match evE a ρ s with
    | some (.bl false, s1) => match evE b ρ s1 with
      | some (.bl c, s2) => some (.bl c, s2)
      | _ => none
    | some (.bl true, s1) => some (.bl true, s1)
    | _ => none
  | .not1 a, ρ, s => match evE a ρ s with
    | some (.bl c, s1) => some (.bl (!c), s1)
    | _ => none
  | .tup l, ρ, s => match evEs l ρ s with
    | some (ds, s1) => if ds.length ≤ 100 then some (.tup ds, s1) else none
    | none => none
  | .lst l, ρ, s => match evEs l ρ s with
    | some (ds, s1) => if ds.length ≤ 100 then some (.lst ds, s1) else none
    | none => none
  | .ix a b, ρ, s => match bor ρ s (evE a ρ s) a with
    | some (x, s1) => match evE b ρ s1 with
      | some (y, s2) => (ixD x y).map fun z => (z, s2)
      | none => none
    | none => none
  | .sl a lo hi, ρ, s => match bor ρ s (evE a ρ s) a with
    | some (x, s1) => match evO lo ρ s1 with
      | some (i, s2) => match evO hi ρ s2 with
        | some (j, s3) => (slD x i j).map fun z => (z, s3)
        | none => none
      | none => none
    | none => none
  | .call f l, ρ, s => match evEs l ρ s with
    | some (ds, s1) => cl f (ds ++ (if ds.length = np f then [] else dfl f)) s1
    | none => none
  | .callv i l, ρ, s => match ρ[i]? with
    | some (.p (.fn f)) => match evEs l ρ s with
      | some (ds, s1) => if ds.length = np f then cl f ds s1 else none
      | none => none
    | _ => none
  | .meth f o l, ρ, s => match evE o ρ s with
    | some (.desk, s1) => match evEs l ρ s1 with
      | some (ds, s2) => cl f (.desk :: ds) s2
      | none => none
    | _ => none
  | .b1 b a, ρ, s => match bor ρ s (evE a ρ s) a with
    | some (x, s1) => (b1D b x).map fun z => (z, s1)
    | none => none
  | .b2 b a c, ρ, s => match evE a ρ s with
    | some (x, s1) => match evE c ρ s1 with
      | some (y, s2) => (b2D b x y).map fun z => (z, s2)
      | none => none
    | none => none
  | .lrng a, ρ, s => match evE a ρ s with
    | some (.int n, s1) => if small? n = true then some (.lst (rngL 0 n), s1) else none
    | _ => none
  | .sset a, ρ, s => match evE a ρ s with
    | some (x, s1) => (ssetD x).map fun z => (z, s1)
    | none => none
  | .isi a t, ρ, s => match evE a ρ s with
    | some (x, s1) => match x with
      | .int _ => some (.bl (isiD t x), s1)
      | .bl _ => some (.bl (isiD t x), s1)
      | .str _ => some (.bl (isiD t x), s1)
      | .tup _ => some (.bl (isiD t x), s1)
      | _ => none
    | none => none
  | .split a b, ρ, s => match evE a ρ s with
    | some (x, s1) => match evE b ρ s1 with
      | some (y, s2) => (splitD x y).map fun z => (z, s2)
      | none => none
    | none => none
  | .join a b, ρ, s => match evE a ρ s with
    | some (x, s1) => match bor ρ s1 (evE b ρ s1) b with
      | some (y, s2) => (joinD x y).map fun z => (z, s2)
      | none => none
    | none => none
  | .part a b, ρ, s => match evE a ρ s with
    | some (x, s1) => match evE b ρ s1 with
      | some (y, s2) => (partD x y).map fun z => (z, s2)
      | none => none
    | none => none
  | .fget a, ρ, s => match evE a ρ s with
    | some (.str k, s1) => match lookS k formsD with
      | some v => some (.str v, s1)
      | none => none
    | _ => none
  | .fix a, ρ, s => match evE a ρ s with
    | some (.str k, s1) => match lookS k formsD with
      | some v => some (.str v, s1)
      | none => none
    | _ => none
  | .disp k1 v1 k2 v2 a, ρ, s => match evE a ρ s with
    | some (.str k, s1) => if k = k1 then some (.str v1, s1) else if k = k2 then some (.str v2, s1) else none
    | _ => none
  | .fstr p a q b, ρ, s => match evE a ρ s with
    | some (.int i, s1) => match evE b ρ s1 with
      | some (.int j, s2) => if (0 ≤ i ∧ i ≤ 9) ∧ 0 ≤ j ∧ j ≤ 9 then some (.str (p ++ [48 + i.toNat] ++ q ++ [48 + j.toNat]), s2) else none
      | _ => none
    | _ => none
  | .comp tst elt t it c, ρ, s => match evI it ρ s with
    | some (xs, s1) => if noOwn ρ (tsl t) = true ∧ xs.length ≤ 10000000 then
        match compL (fun x s => match bindT t x (wipeE ρ (tsl t)) with
          | some ρ1 => match evE c ρ1 s with
            | some (.bl true, s2) => match evE elt ρ1 s2 with
              | some (d, s3) => some (some d, s3)
              | none => none
            | some (.bl false, s2) => some (none, s2)
            | _ => none
          | none => none) xs s1 with
        | some (l, s4) => some (.lst l, s4)
        | none => none
      else none
    | none => none
  | .dnew, _, s => some (.dic [], s)
  | .lvnew, _, s => some (.lev [], s)
  | .shNot a, ρ, s => if deskAt ρ = true then match evE a ρ s with
    | some (.str k, s1) => some (.bl (lookS k s1).isNone, s1)
    | _ => none
    else none
  | .shGet a, ρ, s => if deskAt ρ = true then match evE a ρ s with
    | some (.str k, s1) => (lookS k s1).map fun d => (d, s1)
    | _ => none
    else none
def evEs : MEs → En → Sh → Option (List D × Sh)
  | .nil, _, s => some ([], s)
  | .cons e r, ρ, s => match evE e ρ s with
    | some (d, s1) => match evEs r ρ s1 with
      | some (ds, s2) => some (d :: ds, s2)
      | none => none
    | none => none
def evO : MO → En → Sh → Option (Option Int × Sh)
  | .no, _, s => some (none, s)
  | .ok e, ρ, s => match evE e ρ s with
    | some (.int i, s1) => some (some i, s1)
    | _ => none
def evI : MI → En → Sh → Option (List D × Sh)
  | .val e, ρ, s => match evE e ρ s with
    | some (x, s1) => (itemsD x).map fun l => (l, s1)
    | none => none
  | .r1 a, ρ, s => match evE a ρ s with
    | some (.int n, s1) => if small? n = true then some (rngL 0 n, s1) else none
    | _ => none
  | .r2 a b, ρ, s => match evE a ρ s with
    | some (.int m, s1) => match evE b ρ s1 with
      | some (.int n, s2) => if small? m = true ∧ small? n = true then some (rngL m n, s2) else none
      | _ => none
    | _ => none
  | .r3 a b c, ρ, s => match evE a ρ s with
    | some (.int m, s1) => match evE b ρ s1 with
      | some (.int n, s2) => match evE c ρ s2 with
        | some (.int k, s3) => if small? m = true ∧ small? n = true ∧ 0 < k ∧ k < 1000 then some (rngC m n k, s3) else none
        | _ => none
      | _ => none
    | _ => none
  | .zip a b, ρ, s => match evE a ρ s with
    | some (x, s1) => match evE b ρ s1 with
      | some (y, s2) => match x, y with
        | .tup l, .tup m => some (zipD l m, s2)
        | .str l, .lst m => some (zipD (l.map fun c => .str [c]) m, s2)
        | _, _ => none
      | none => none
    | none => none
end
/-- forms that lay a new list or dict -/
def fresh? : ME → Bool
  | .lst _ => true
  | .dnew => true
  | .lvnew => true
  | .b1 .dict1 _ => true
  | .b1 .list1 _ => true
  | .bin .add _ _ => true
  | _ => false
def canOwn : D → Bool
  | .lst _ => true
  | .dic _ => true
  | .lev _ => true
  | _ => false
def retR (ρ : En) (s : Sh) (r : Option (D × Sh)) : ME → Option (D × Sh)
  | .var i => match ρ[i]? with
    | some (.o d) => some (d, s)
    | _ => r
  | _ => r
mutual
def exS : MS → En → Sh → Option Out
  | .never, _, _ => none
  | .ex e, ρ, s => match evE cl e ρ s with
    | some (_, s1) => some (.nx ρ s1)
    | none => none
  | .set i e, ρ, s => match evE cl e ρ s with
    | some (d, s1) => if i < ρ.length then some (.nx (ρ.set i (.p d)) s1) else none
    | none => none
  | .setLc i e, ρ, s => match evE cl e ρ s with
    | some (d, s1) => if i < ρ.length then some (.nx (ρ.set i (.p d)) s1) else none
    | none => none
  | .setOwn i e, ρ, s => match evE cl e ρ s with
    | some (d, s1) => if i < ρ.length ∧ fresh? e = true ∧ canOwn d = true then some (.nx (ρ.set i (.o d)) s1) else none
    | none => none
  | .setT l e, ρ, s => match evE cl e ρ s with
    | some (.tup ds, s1) => match bindMany l ds ρ with
      | some ρ1 => some (.nx ρ1 s1)
      | none => none
    | _ => none
  | .ret e, ρ, s => match retR ρ s (evE cl e ρ s) e with
    | some (d, s1) => some (.rt d s1)
    | none => none
  | .iff c t f, ρ, s => match evE cl c ρ s with
    | some (.bl true, s1) => exSs t ρ s1
    | some (.bl false, s1) => exSs f ρ s1
    | _ => none
  | .for_ t it b, ρ, s => match evI cl it ρ s with
    | some (xs, s1) => forL (fun x ρ s => match bindT t x ρ with
      | some ρ1 => exSs b ρ1 s
      | none => none) xs ρ s1
    | none => none
  | .while_ c b, ρ, s => whileL (fun ρ s => evE cl c ρ s) (fun ρ s => exSs b ρ s) 1000 ρ s
  | .app i e, ρ, s => match evE cl e ρ s with
    | some (d, s1) => match ρ[i]? with
      | some (.o (.lst l)) => if l.length < sizeLine then some (.nx (ρ.set i (.o (.lst (l ++ [d])))) s1) else none
      | _ => none
    | none => none
  | .ext i e, ρ, s => match bor ρ s (evE cl e ρ s) e with
    | some (.lst m, s1) => match ρ[i]? with
      | some (.o (.lst l)) => if l.length + m.length ≤ sizeLine then some (.nx (ρ.set i (.o (.lst (l ++ m)))) s1) else none
      | _ => none
    | _ => none
  | .put i k e, ρ, s => match evE cl e ρ s with
    | some (d, s1) => match ρ[i]? with
      | some (.o (.lst l)) => match evE cl k ρ s1 with
        | some (.int j, s2) => match L2.ixN l.length j with
          | some n => some (.nx (ρ.set i (.o (.lst (l.set n d)))) s2)
          | none => none
        | _ => none
      | _ => none
    | none => none
  | .dput i k e, ρ, s => match evE cl e ρ s with
    | some (.int v, s1) => match ρ[i]? with
      | some (.o (.dic l)) => match evE cl k ρ s1 with
        | some (.str x, s2) => if l.length < sizeLine then some (.nx (ρ.set i (.o (.dic (putS x v l)))) s2) else none
        | _ => none
      | _ => none
    | _ => none
  | .lput i k e, ρ, s => match evE cl e ρ s with
    | some (.bl true, s1) => match ρ[i]? with
      | some (.o (.lev l)) => match evE cl k ρ s1 with
        | some (x, s2) => match asPairs x with
          | some z => if l.length < sizeLine then some (.nx (ρ.set i (.o (.lev (if z ∈ l then l else l ++ [z])))) s2) else none
          | none => none
        | none => none
      | _ => none
    | _ => none
  | .shPut k e, ρ, s => if deskAt ρ = true then match evE cl e ρ s with
    | some (d, s1) => match evE cl k ρ s1 with
      | some (.str x, s2) => if s2.length < 1000 then some (.nx ρ (putS x d s2)) else none
      | _ => none
    | none => none
    else none
  | .frz i, ρ, s => match ρ[i]? with
    | some (.o d) => some (.nx (ρ.set i (.p d)) s)
    | _ => none
def exSs : MSs → En → Sh → Option Out
  | .nil, ρ, s => some (.nx ρ s)
  | .cons a r, ρ, s => match exS a ρ s with
    | some (.nx ρ1 s1) => exSs r ρ1 s1
    | o => o
end
end
end Pk
end
section
-- PkBody
namespace Pk
/- is_whole: thing -/
def b_is_whole : MSs := (.cons (.ret (.and2 (.isi (.var 0) .tint) (.not1 (.isi (.var 0) .tbool)))) .nil)
def n_is_whole : List PySem.Str := ["thing"]
/- count_of: thing least greatest -/
def b_count_of : MSs := (.cons (.iff (.or2 (.not1 (.call .is_whole (.cons (.var 0) .nil))) (.or2 (.cmp .lt (.var 0) (.var 1)) (.cmp .gt (.var 0) (.var 2)))) (.cons (.never) .nil) .nil) (.cons (.ret (.var 0)) .nil))
def n_count_of : List PySem.Str := ["thing", "least", "greatest"]
/- is_name: thing sign -/
def b_is_name : MSs := (.cons (.iff (.or2 (.not1 (.isi (.var 0) .tstr)) (.or2 (.cmp .lt (.b1 .len1 (.var 0)) (.int 2)) (.or2 (.cmp .gt (.b1 .len1 (.var 0)) (.int 8)) (.cmp .isin (.var 0) (.glo .WORDS))))) (.cons (.ret (.bl false)) .nil) .nil) (.cons (.ret (.b1 .all1 (.comp false (.cmp .isin (.var 1) (.glo .LETTERS)) (.one 1) (.val (.var 0)) (.bl true)))) .nil))
def n_is_name : List PySem.Str := ["thing", "sign"]
/- is_point: thing many -/
def b_is_point : MSs := (.cons (.ret (.and2 (.call .is_whole (.cons (.var 0) .nil)) (.and2 (.cmp .le (.int 0) (.var 0)) (.cmp .lt (.var 0) (.var 1))))) .nil)
def n_is_point : List PySem.Str := ["thing", "many"]
/- is_pair: thing many -/
def b_is_pair : MSs := (.cons (.ret (.and2 (.isi (.var 0) .ttup) (.and2 (.cmp .eq (.b1 .len1 (.var 0)) (.int 2)) (.and2 (.call .is_point (.cons (.ix (.var 0) (.int 0)) (.cons (.var 1) .nil))) (.call .is_point (.cons (.ix (.var 0) (.int 1)) (.cons (.var 1) .nil))))))) .nil)
def n_is_pair : List PySem.Str := ["thing", "many"]
/- rises: some k -/
def b_rises : MSs := (.cons (.ret (.b1 .all1 (.comp false (.cmp .lt (.ix (.var 0) (.var 1)) (.ix (.var 0) (.bin .add (.var 1) (.int 1)))) (.one 1) (.r1 (.bin .sub (.b1 .len1 (.var 0)) (.int 1))) (.bl true)))) .nil)
def n_rises : List PySem.Str := ["some", "k"]
/- are_named: thing many good part one -/
def b_are_named : MSs := (.cons (.iff (.or2 (.not1 (.isi (.var 0) .ttup)) (.cmp .gt (.b1 .len1 (.var 0)) (.int 3))) (.cons (.ret (.bl false)) .nil) .nil) (.cons (.for_ (.one 3) (.val (.var 0)) (.cons (.iff (.or2 (.not1 (.isi (.var 3) .ttup)) (.or2 (.cmp .ne (.b1 .len1 (.var 3)) (.int 2)) (.or2 (.not1 (.call .is_name (.cons (.ix (.var 3) (.int 0)) .nil))) (.not1 (.isi (.ix (.var 3) (.int 1)) .ttup))))) (.cons (.ret (.bl false)) .nil) .nil) (.cons (.iff (.or2 (.not1 (.b1 .all1 (.comp false (.callv 2 (.cons (.var 4) (.cons (.var 1) .nil))) (.one 4) (.val (.ix (.var 3) (.int 1))) (.bl true)))) (.not1 (.call .rises (.cons (.ix (.var 3) (.int 1)) .nil)))) (.cons (.ret (.bl false)) .nil) .nil) .nil))) (.cons (.ret (.call .rises (.cons (.comp false (.ix (.var 3) (.int 0)) (.one 3) (.val (.var 0)) (.bl true)) .nil))) .nil)))
def n_are_named : List PySem.Str := ["thing", "many", "good", "part", "one"]
/- is_world: thing many marks arrows -/
def b_is_world : MSs := (.cons (.iff (.or2 (.not1 (.isi (.var 0) .ttup)) (.cmp .ne (.b1 .len1 (.var 0)) (.int 3))) (.cons (.ret (.bl false)) .nil) .nil) (.cons (.setT [1, 2, 3] (.var 0)) (.cons (.iff (.or2 (.not1 (.call .is_whole (.cons (.var 1) .nil))) (.or2 (.cmp .lt (.var 1) (.int 1)) (.cmp .gt (.var 1) (.glo .MOST)))) (.cons (.ret (.bl false)) .nil) .nil) (.cons (.ret (.and2 (.call .are_named (.cons (.var 2) (.cons (.var 1) (.cons (.fnv .is_point) .nil)))) (.call .are_named (.cons (.var 3) (.cons (.var 1) (.cons (.fnv .is_pair) .nil)))))) .nil))))
def n_is_world : List PySem.Str := ["thing", "many", "marks", "arrows"]
/- tongue_of: world part -/
def b_tongue_of : MSs := (.cons (.ret (.tup (.cons (.b1 .tuple1 (.comp false (.ix (.var 1) (.int 0)) (.one 1) (.val (.ix (.var 0) (.int 1))) (.bl true))) (.cons (.b1 .tuple1 (.comp false (.ix (.var 1) (.int 0)) (.one 1) (.val (.ix (.var 0) (.int 2))) (.bl true))) .nil)))) .nil)
def n_tongue_of : List PySem.Str := ["world", "part"]
/- what_has: some name part -/
def b_what_has : MSs := (.cons (.for_ (.one 2) (.val (.var 0)) (.cons (.iff (.cmp .eq (.ix (.var 2) (.int 0)) (.var 1)) (.cons (.ret (.ix (.var 2) (.int 1))) .nil) .nil) .nil)) (.cons (.never) .nil))
def n_what_has : List PySem.Str := ["some", "name", "part"]
/- bears: world name point -/
def b_bears : MSs := (.cons (.ret (.cmp .isin (.var 2) (.call .what_has (.cons (.ix (.var 0) (.int 1)) (.cons (.var 1) .nil))))) .nil)
def n_bears : List PySem.Str := ["world", "name", "point"]
/- leads: world name one other -/
def b_leads : MSs := (.cons (.ret (.cmp .isin (.tup (.cons (.var 2) (.cons (.var 3) .nil))) (.call .what_has (.cons (.ix (.var 0) (.int 2)) (.cons (.var 1) .nil))))) .nil)
def n_leads : List PySem.Str := ["world", "name", "one", "other"]
/- check_tongue: one other -/
def b_check_tongue : MSs := (.cons (.iff (.cmp .ne (.call .tongue_of (.cons (.var 0) .nil)) (.call .tongue_of (.cons (.var 1) .nil))) (.cons (.never) .nil) .nil) .nil)
def n_check_tongue : List PySem.Str := ["one", "other"]
/- check_small: world -/
def b_check_small : MSs := (.cons (.iff (.cmp .gt (.ix (.var 0) (.int 0)) (.glo .SMALL)) (.cons (.never) .nil) .nil) .nil)
def n_check_small : List PySem.Str := ["world"]
/- check_two: one other -/
def b_check_two : MSs := (.cons (.ex (.call .check_tongue (.cons (.var 0) (.cons (.var 1) .nil)))) (.cons (.ex (.call .check_small (.cons (.var 0) .nil))) (.cons (.ex (.call .check_small (.cons (.var 1) .nil))) .nil)))
def n_check_two : List PySem.Str := ["one", "other"]
/- beside: one other far marks arrows here there point a b -/
def b_beside : MSs := (.cons (.ex (.call .check_tongue (.cons (.var 0) (.cons (.var 1) .nil)))) (.cons (.set 2 (.ix (.var 0) (.int 0))) (.cons (.iff (.cmp .gt (.bin .add (.var 2) (.ix (.var 1) (.int 0))) (.glo .MOST)) (.cons (.never) .nil) .nil) (.cons (.setOwn 3 (.lst .nil)) (.cons (.for_ (.many [5, 6]) (.zip (.ix (.var 0) (.int 1)) (.ix (.var 1) (.int 1))) (.cons (.app 3 (.tup (.cons (.ix (.var 5) (.int 0)) (.cons (.bin .add (.ix (.var 5) (.int 1)) (.b1 .tuple1 (.comp false (.bin .add (.var 7) (.var 2)) (.one 7) (.val (.ix (.var 6) (.int 1))) (.bl true)))) .nil)))) .nil)) (.cons (.setOwn 4 (.lst .nil)) (.cons (.for_ (.many [5, 6]) (.zip (.ix (.var 0) (.int 2)) (.ix (.var 1) (.int 2))) (.cons (.app 4 (.tup (.cons (.ix (.var 5) (.int 0)) (.cons (.bin .add (.ix (.var 5) (.int 1)) (.b1 .tuple1 (.comp false (.tup (.cons (.bin .add (.var 8) (.var 2)) (.cons (.bin .add (.var 9) (.var 2)) .nil))) (.many [8, 9]) (.val (.ix (.var 6) (.int 1))) (.bl true)))) .nil)))) .nil)) (.cons (.ret (.tup (.cons (.bin .add (.var 2) (.ix (.var 1) (.int 0))) (.cons (.b1 .tuple1 (.var 3)) (.cons (.b1 .tuple1 (.var 4)) .nil))))) .nil))))))))
def n_beside : List PySem.Str := ["one", "other", "far", "marks", "arrows", "here", "there", "point", "a", "b"]
/- same_marks: one other pair here there -/
def b_same_marks : MSs := (.cons (.for_ (.many [3, 4]) (.zip (.ix (.var 0) (.int 1)) (.ix (.var 1) (.int 1))) (.cons (.iff (.cmp .ne (.cmp .isin (.ix (.var 2) (.int 0)) (.ix (.var 3) (.int 1))) (.cmp .isin (.ix (.var 2) (.int 1)) (.ix (.var 4) (.int 1)))) (.cons (.ret (.bl false)) .nil) .nil) .nil)) (.cons (.ret (.bl true)) .nil))
def n_same_marks : List PySem.Str := ["one", "other", "pair", "here", "there"]
/- agree: one other first second a b c d here there -/
def b_agree : MSs := (.cons (.setT [4, 5] (.var 2)) (.cons (.setT [6, 7] (.var 3)) (.cons (.iff (.cmp .ne (.cmp .eq (.var 4) (.var 6)) (.cmp .eq (.var 5) (.var 7))) (.cons (.ret (.bl false)) .nil) .nil) (.cons (.for_ (.many [8, 9]) (.zip (.ix (.var 0) (.int 2)) (.ix (.var 1) (.int 2))) (.cons (.iff (.or2 (.cmp .ne (.cmp .isin (.tup (.cons (.var 4) (.cons (.var 6) .nil))) (.ix (.var 8) (.int 1))) (.cmp .isin (.tup (.cons (.var 5) (.cons (.var 7) .nil))) (.ix (.var 9) (.int 1)))) (.cmp .ne (.cmp .isin (.tup (.cons (.var 6) (.cons (.var 4) .nil))) (.ix (.var 8) (.int 1))) (.cmp .isin (.tup (.cons (.var 7) (.cons (.var 5) .nil))) (.ix (.var 9) (.int 1))))) (.cons (.ret (.bl false)) .nil) .nil) .nil)) (.cons (.ret (.bl true)) .nil)))))
def n_agree : List PySem.Str := ["one", "other", "first", "second", "a", "b", "c", "d", "here", "there"]
/- joins: one other pairs pair known -/
def b_joins : MSs := (.cons (.iff (.or2 (.not1 (.call .same_marks (.cons (.var 0) (.cons (.var 1) (.cons (.var 3) .nil))))) (.not1 (.call .agree (.cons (.var 0) (.cons (.var 1) (.cons (.var 3) (.cons (.var 3) .nil))))))) (.cons (.ret (.bl false)) .nil) .nil) (.cons (.ret (.b1 .all1 (.comp false (.call .agree (.cons (.var 0) (.cons (.var 1) (.cons (.var 3) (.cons (.var 4) .nil))))) (.one 4) (.val (.var 2)) (.bl true)))) .nil))
def n_joins : List PySem.Str := ["one", "other", "pairs", "pair", "known"]
/- with_pair: pairs pair -/
def b_with_pair : MSs := (.cons (.ret (.b1 .tuple1 (.sset (.bin .add (.var 0) (.tup (.cons (.var 1) .nil)))))) .nil)
def n_with_pair : List PySem.Str := ["pairs", "pair"]
/- further: one other pairs found a b -/
def b_further : MSs := (.cons (.setOwn 3 (.lst .nil)) (.cons (.for_ (.one 4) (.r1 (.ix (.var 0) (.int 0))) (.cons (.for_ (.one 5) (.r1 (.ix (.var 1) (.int 0))) (.cons (.iff (.and2 (.or2 (.cmp .eq (.var 2) (.tup .nil)) (.cmp .lt (.ix (.var 2) (.neg (.int 1))) (.tup (.cons (.var 4) (.cons (.var 5) .nil))))) (.call .joins (.cons (.var 0) (.cons (.var 1) (.cons (.var 2) (.cons (.tup (.cons (.var 4) (.cons (.var 5) .nil))) .nil)))))) (.cons (.app 3 (.bin .add (.var 2) (.tup (.cons (.tup (.cons (.var 4) (.cons (.var 5) .nil))) .nil)))) .nil) .nil) .nil)) .nil)) (.cons (.ret (.var 3)) .nil)))
def n_further : List PySem.Str := ["one", "other", "pairs", "found", "a", "b"]
/- pairings: one other most found last size more pairs -/
def b_pairings : MSs := (.cons (.ex (.call .check_two (.cons (.var 0) (.cons (.var 1) .nil)))) (.cons (.ex (.call .count_of (.cons (.var 2) (.cons (.int 0) (.cons (.int 4) .nil))))) (.cons (.setOwn 3 (.lst (.cons (.tup .nil) .nil))) (.cons (.set 4 (.lst (.cons (.tup .nil) .nil))) (.cons (.for_ (.one 5) (.r1 (.var 2)) (.cons (.setOwn 6 (.lst .nil)) (.cons (.for_ (.one 7) (.val (.var 4)) (.cons (.ext 6 (.call .further (.cons (.var 0) (.cons (.var 1) (.cons (.var 7) .nil))))) .nil)) (.cons (.ext 3 (.var 6)) (.cons (.frz 6) (.cons (.set 4 (.var 6)) .nil)))))) (.cons (.ret (.var 3)) .nil))))))
def n_pairings : List PySem.Str := ["one", "other", "most", "found", "last", "size", "more", "pairs"]
/- is_saved: pairs ways level pair -/
def b_is_saved : MSs := (.cons (.for_ (.one 3) (.val (.var 1)) (.cons (.iff (.cmp .isin (.call .with_pair (.cons (.var 0) (.cons (.var 3) .nil))) (.var 2)) (.cons (.ret (.bl true)) .nil) .nil) .nil)) (.cons (.ret (.bl false)) .nil))
def n_is_saved : List PySem.Str := ["pairs", "ways", "level", "pair"]
/- is_answered: one other pairs level firsts seconds here there a b -/
def b_is_answered : MSs := (.cons (.iff (.and2 (.cmp .ne (.var 2) (.tup .nil)) (.cmp .notin (.var 2) (.var 3))) (.cons (.ret (.bl false)) .nil) .nil) (.cons (.setLc 4 (.comp false (.var 8) (.many [8, 9]) (.val (.var 2)) (.bl true))) (.cons (.setLc 5 (.comp false (.var 9) (.many [8, 9]) (.val (.var 2)) (.bl true))) (.cons (.setLc 6 (.comp true (.var 8) (.one 8) (.r1 (.ix (.var 0) (.int 0))) (.cmp .notin (.var 8) (.var 4)))) (.cons (.setLc 7 (.comp true (.var 9) (.one 9) (.r1 (.ix (.var 1) (.int 0))) (.cmp .notin (.var 9) (.var 5)))) (.cons (.for_ (.one 8) (.val (.var 6)) (.cons (.iff (.not1 (.call .is_saved (.cons (.var 2) (.cons (.comp false (.tup (.cons (.var 8) (.cons (.var 9) .nil))) (.one 9) (.val (.var 7)) (.bl true)) (.cons (.var 3) .nil))))) (.cons (.ret (.bl false)) .nil) .nil) .nil)) (.cons (.for_ (.one 9) (.val (.var 7)) (.cons (.iff (.not1 (.call .is_saved (.cons (.var 2) (.cons (.comp false (.tup (.cons (.var 8) (.cons (.var 9) .nil))) (.one 8) (.val (.var 6)) (.bl true)) (.cons (.var 3) .nil))))) (.cons (.ret (.bl false)) .nil) .nil) .nil)) (.cons (.ret (.bl true)) .nil))))))))
def n_is_answered : List PySem.Str := ["one", "other", "pairs", "level", "firsts", "seconds", "here", "there", "a", "b"]
/- next_layer: one other layer level pairs -/
def b_next_layer : MSs := (.cons (.setOwn 3 .lvnew) (.cons (.for_ (.one 4) (.val (.var 2)) (.cons (.lput 3 (.var 4) (.bl true)) .nil)) (.cons (.frz 3) (.cons (.ret (.comp true (.var 4) (.one 4) (.val (.var 2)) (.call .is_answered (.cons (.var 0) (.cons (.var 1) (.cons (.var 4) (.cons (.var 3) .nil))))))) .nil))))
def n_next_layer : List PySem.Str := ["one", "other", "layer", "level", "pairs"]
/- layers: one other depth found step -/
def b_layers : MSs := (.cons (.ex (.call .check_two (.cons (.var 0) (.cons (.var 1) .nil)))) (.cons (.ex (.call .count_of (.cons (.var 2) (.cons (.int 0) (.cons (.int 6) .nil))))) (.cons (.setOwn 3 (.lst (.cons (.call .pairings (.cons (.var 0) (.cons (.var 1) (.cons (.int 4) .nil)))) .nil))) (.cons (.for_ (.one 4) (.r1 (.var 2)) (.cons (.iff (.and2 (.cmp .gt (.var 4) (.int 0)) (.cmp .eq (.b1 .len1 (.ix (.var 3) (.var 4))) (.b1 .len1 (.ix (.var 3) (.bin .sub (.var 4) (.int 1)))))) (.cons (.app 3 (.b1 .list1 (.ix (.var 3) (.var 4)))) .nil) (.cons (.app 3 (.call .next_layer (.cons (.var 0) (.cons (.var 1) (.cons (.ix (.var 3) (.var 4)) .nil))))) .nil)) .nil)) (.cons (.ret (.var 3)) .nil)))))
def n_layers : List PySem.Str := ["one", "other", "depth", "found", "step"]
/- is_letter: thing -/
def b_is_letter : MSs := (.cons (.ret (.and2 (.isi (.var 0) .tstr) (.and2 (.cmp .eq (.b1 .len1 (.var 0)) (.int 1)) (.cmp .isin (.var 0) (.glo .LETTERS))))) .nil)
def n_is_letter : List PySem.Str := ["thing"]
/- parts_of: saying head -/
def b_parts_of : MSs := (.cons (.set 1 (.ix (.var 0) (.int 0))) (.cons (.iff (.or2 (.cmp .eq (.var 1) (.str [97, 110, 100])) (.cmp .eq (.var 1) (.str [111, 114]))) (.cons (.ret (.b1 .list1 (.ix (.var 0) (.int 1)))) .nil) .nil) (.cons (.iff (.or2 (.cmp .eq (.var 1) (.str [110, 111, 116])) (.or2 (.cmp .eq (.var 1) (.str [115, 111, 109, 101])) (.or2 (.cmp .eq (.var 1) (.str [101, 118, 101, 114, 121])) (.cmp .eq (.var 1) (.str [108, 101, 97, 115, 116]))))) (.cons (.ret (.lst (.cons (.ix (.var 0) (.neg (.int 1))) .nil))) .nil) .nil) (.cons (.ret (.lst .nil)) .nil))))
def n_parts_of : List PySem.Str := ["saying", "head"]
/- letters_here: saying head -/
def b_letters_here : MSs := (.cons (.set 1 (.ix (.var 0) (.int 0))) (.cons (.iff (.or2 (.cmp .eq (.var 1) (.str [109, 97, 114, 107])) (.cmp .eq (.var 1) (.str [97, 114, 114, 111, 119]))) (.cons (.ret (.b1 .list1 (.sl (.var 0) (.ok (.int 2)) .no))) .nil) .nil) (.cons (.iff (.cmp .eq (.var 1) (.str [115, 97, 109, 101])) (.cons (.ret (.b1 .list1 (.sl (.var 0) (.ok (.int 1)) .no))) .nil) .nil) (.cons (.iff (.or2 (.cmp .eq (.var 1) (.str [115, 111, 109, 101])) (.or2 (.cmp .eq (.var 1) (.str [101, 118, 101, 114, 121])) (.cmp .eq (.var 1) (.str [108, 101, 97, 115, 116])))) (.cons (.ret (.lst (.cons (.ix (.var 0) (.neg (.int 2))) .nil))) .nil) .nil) (.cons (.ret (.lst .nil)) .nil)))))
def n_letters_here : List PySem.Str := ["saying", "head"]
/- depth_of: saying depth part -/
def b_depth_of : MSs := (.cons (.set 1 (.b1 .maxd (.comp false (.call .depth_of (.cons (.var 2) .nil)) (.one 2) (.val (.call .parts_of (.cons (.var 0) .nil))) (.bl true)))) (.cons (.iff (.or2 (.cmp .eq (.ix (.var 0) (.int 0)) (.str [115, 111, 109, 101])) (.or2 (.cmp .eq (.ix (.var 0) (.int 0)) (.str [101, 118, 101, 114, 121])) (.cmp .eq (.ix (.var 0) (.int 0)) (.str [108, 101, 97, 115, 116])))) (.cons (.set 1 (.bin .add (.var 1) (.int 1))) .nil) .nil) (.cons (.ret (.var 1)) .nil)))
def n_depth_of : List PySem.Str := ["saying", "depth", "part"]
/- free_of: saying found part letter -/
def b_free_of : MSs := (.cons (.set 1 (.lst .nil)) (.cons (.for_ (.one 2) (.val (.call .parts_of (.cons (.var 0) .nil))) (.cons (.set 1 (.bin .add (.var 1) (.call .free_of (.cons (.var 2) .nil)))) .nil)) (.cons (.iff (.or2 (.cmp .eq (.ix (.var 0) (.int 0)) (.str [115, 111, 109, 101])) (.or2 (.cmp .eq (.ix (.var 0) (.int 0)) (.str [101, 118, 101, 114, 121])) (.cmp .eq (.ix (.var 0) (.int 0)) (.str [108, 101, 97, 115, 116])))) (.cons (.ret (.sset (.comp true (.var 3) (.one 3) (.val (.var 1)) (.cmp .ne (.var 3) (.ix (.var 0) (.neg (.int 2))))))) .nil) .nil) (.cons (.ret (.sset (.bin .add (.var 1) (.call .letters_here (.cons (.var 0) .nil))))) .nil))))
def n_free_of : List PySem.Str := ["saying", "found", "part", "letter"]
/- strange: saying tongue part name -/
def b_strange : MSs := (.cons (.iff (.or2 (.and2 (.cmp .eq (.ix (.var 0) (.int 0)) (.str [109, 97, 114, 107])) (.cmp .notin (.ix (.var 0) (.int 1)) (.ix (.var 1) (.int 0)))) (.and2 (.cmp .eq (.ix (.var 0) (.int 0)) (.str [97, 114, 114, 111, 119])) (.cmp .notin (.ix (.var 0) (.int 1)) (.ix (.var 1) (.int 1))))) (.cons (.ret (.ix (.var 0) (.int 1))) .nil) .nil) (.cons (.for_ (.one 2) (.val (.call .parts_of (.cons (.var 0) .nil))) (.cons (.set 3 (.call .strange (.cons (.var 2) (.cons (.var 1) .nil)))) (.cons (.iff (.cmp .notN (.var 3) .non) (.cons (.ret (.var 3)) .nil) .nil) .nil))) (.cons (.ret .non) .nil)))
def n_strange : List PySem.Str := ["saying", "tongue", "part", "name"]
/- with_letter: places letter point found -/
def b_with_letter : MSs := (.cons (.setOwn 3 (.b1 .dict1 (.var 0))) (.cons (.dput 3 (.var 1) (.var 2)) (.cons (.ret (.var 3)) .nil)))
def n_with_letter : List PySem.Str := ["places", "letter", "point", "found"]
/- joined: world parts places due part -/
def b_joined : MSs := (.cons (.for_ (.one 4) (.val (.var 1)) (.cons (.iff (.cmp .ne (.call .true_at (.cons (.var 0) (.cons (.var 4) (.cons (.var 2) .nil)))) (.var 3)) (.cons (.ret (.bl false)) .nil) .nil) .nil)) (.cons (.ret (.bl true)) .nil))
def n_joined : List PySem.Str := ["world", "parts", "places", "due", "part"]
/- often: world letter saying places enough many point -/
def b_often : MSs := (.cons (.set 5 (.int 0)) (.cons (.for_ (.one 6) (.r1 (.ix (.var 0) (.int 0))) (.cons (.iff (.and2 (.cmp .lt (.var 5) (.var 4)) (.call .true_at (.cons (.var 0) (.cons (.var 2) (.cons (.call .with_letter (.cons (.var 3) (.cons (.var 1) (.cons (.var 6) .nil)))) .nil))))) (.cons (.set 5 (.bin .add (.var 5) (.int 1))) .nil) .nil) .nil)) (.cons (.ret (.cmp .ge (.var 5) (.var 4))) .nil)))
def n_often : List PySem.Str := ["world", "letter", "saying", "places", "enough", "many", "point"]
/- for_each: world letter saying places point -/
def b_for_each : MSs := (.cons (.for_ (.one 4) (.r1 (.ix (.var 0) (.int 0))) (.cons (.iff (.not1 (.call .true_at (.cons (.var 0) (.cons (.var 2) (.cons (.call .with_letter (.cons (.var 3) (.cons (.var 1) (.cons (.var 4) .nil)))) .nil))))) (.cons (.ret (.bl false)) .nil) .nil) .nil)) (.cons (.ret (.bl true)) .nil))
def n_for_each : List PySem.Str := ["world", "letter", "saying", "places", "point"]
/- true_at: world saying places head -/
def b_true_at : MSs := (.cons (.set 3 (.ix (.var 1) (.int 0))) (.cons (.iff (.cmp .eq (.var 3) (.str [109, 97, 114, 107])) (.cons (.ret (.call .bears (.cons (.var 0) (.cons (.ix (.var 1) (.int 1)) (.cons (.ix (.var 2) (.ix (.var 1) (.int 2))) .nil))))) .nil) .nil) (.cons (.iff (.cmp .eq (.var 3) (.str [97, 114, 114, 111, 119])) (.cons (.ret (.call .leads (.cons (.var 0) (.cons (.ix (.var 1) (.int 1)) (.cons (.ix (.var 2) (.ix (.var 1) (.int 2))) (.cons (.ix (.var 2) (.ix (.var 1) (.int 3))) .nil)))))) .nil) .nil) (.cons (.iff (.cmp .eq (.var 3) (.str [115, 97, 109, 101])) (.cons (.ret (.cmp .eq (.ix (.var 2) (.ix (.var 1) (.int 1))) (.ix (.var 2) (.ix (.var 1) (.int 2))))) .nil) .nil) (.cons (.iff (.cmp .eq (.var 3) (.str [110, 111, 116])) (.cons (.ret (.not1 (.call .true_at (.cons (.var 0) (.cons (.ix (.var 1) (.int 1)) (.cons (.var 2) .nil)))))) .nil) .nil) (.cons (.iff (.cmp .eq (.var 3) (.str [97, 110, 100])) (.cons (.ret (.call .joined (.cons (.var 0) (.cons (.ix (.var 1) (.int 1)) (.cons (.var 2) (.cons (.bl true) .nil)))))) .nil) .nil) (.cons (.iff (.cmp .eq (.var 3) (.str [111, 114])) (.cons (.ret (.not1 (.call .joined (.cons (.var 0) (.cons (.ix (.var 1) (.int 1)) (.cons (.var 2) (.cons (.bl false) .nil))))))) .nil) .nil) (.cons (.iff (.cmp .eq (.var 3) (.str [108, 101, 97, 115, 116])) (.cons (.ret (.call .often (.cons (.var 0) (.cons (.ix (.var 1) (.int 2)) (.cons (.ix (.var 1) (.int 3)) (.cons (.var 2) (.cons (.ix (.var 1) (.int 1)) .nil))))))) .nil) .nil) (.cons (.iff (.cmp .eq (.var 3) (.str [115, 111, 109, 101])) (.cons (.ret (.call .often (.cons (.var 0) (.cons (.ix (.var 1) (.int 1)) (.cons (.ix (.var 1) (.int 2)) (.cons (.var 2) (.cons (.int 1) .nil))))))) .nil) .nil) (.cons (.ret (.call .for_each (.cons (.var 0) (.cons (.ix (.var 1) (.int 1)) (.cons (.ix (.var 1) (.int 2)) (.cons (.var 2) .nil)))))) .nil))))))))))
def n_true_at : List PySem.Str := ["world", "saying", "places", "head"]
/- holds: world saying places tongue name known letter part -/
def b_holds : MSs := (.cons (.set 3 (.tup (.cons (.b1 .tuple1 (.comp false (.ix (.var 7) (.int 0)) (.one 7) (.val (.ix (.var 0) (.int 1))) (.bl true))) (.cons (.b1 .tuple1 (.comp false (.ix (.var 7) (.int 0)) (.one 7) (.val (.ix (.var 0) (.int 2))) (.bl true))) .nil)))) (.cons (.set 4 (.call .strange (.cons (.var 1) (.cons (.var 3) .nil)))) (.cons (.iff (.cmp .notN (.var 4) .non) (.cons (.never) .nil) .nil) (.cons (.setOwn 5 .dnew) (.cons (.iff (.cmp .notN (.var 2) .non) (.cons (.setOwn 5 (.b1 .dict1 (.var 2))) .nil) .nil) (.cons (.for_ (.one 6) (.val (.call .free_of (.cons (.var 1) .nil))) (.cons (.iff (.cmp .notin (.var 6) (.var 5)) (.cons (.never) .nil) .nil) .nil)) (.cons (.frz 5) (.cons (.ret (.call .true_at (.cons (.var 0) (.cons (.var 1) (.cons (.var 5) .nil))))) .nil))))))))
def n_holds : List PySem.Str := ["world", "saying", "places", "tongue", "name", "known", "letter", "part"]
/- show_saying: saying head between part -/
def b_show_saying : MSs := (.cons (.set 1 (.ix (.var 0) (.int 0))) (.cons (.iff (.cmp .eq (.var 1) (.str [109, 97, 114, 107])) (.cons (.ret (.bin .add (.bin .add (.bin .add (.ix (.var 0) (.int 1)) (.str [40])) (.ix (.var 0) (.int 2))) (.str [41]))) .nil) .nil) (.cons (.iff (.cmp .eq (.var 1) (.str [97, 114, 114, 111, 119])) (.cons (.ret (.bin .add (.bin .add (.bin .add (.bin .add (.bin .add (.ix (.var 0) (.int 1)) (.str [40])) (.ix (.var 0) (.int 2))) (.str [32])) (.ix (.var 0) (.int 3))) (.str [41]))) .nil) .nil) (.cons (.iff (.cmp .eq (.var 1) (.str [115, 97, 109, 101])) (.cons (.ret (.bin .add (.bin .add (.ix (.var 0) (.int 1)) (.str [32, 61, 32])) (.ix (.var 0) (.int 2)))) .nil) .nil) (.cons (.iff (.cmp .eq (.var 1) (.str [110, 111, 116])) (.cons (.ret (.bin .add (.str [110, 111, 116, 32]) (.call .show_saying (.cons (.ix (.var 0) (.int 1)) .nil)))) .nil) .nil) (.cons (.iff (.cmp .eq (.var 1) (.str [108, 101, 97, 115, 116])) (.cons (.ret (.bin .add (.bin .add (.bin .add (.bin .add (.bin .add (.str [108, 101, 97, 115, 116, 32]) (.b1 .str1 (.ix (.var 0) (.int 1)))) (.str [32])) (.ix (.var 0) (.int 2))) (.str [32])) (.call .show_saying (.cons (.ix (.var 0) (.int 3)) .nil)))) .nil) .nil) (.cons (.iff (.or2 (.cmp .eq (.var 1) (.str [115, 111, 109, 101])) (.cmp .eq (.var 1) (.str [101, 118, 101, 114, 121]))) (.cons (.ret (.bin .add (.bin .add (.bin .add (.bin .add (.var 1) (.str [32])) (.ix (.var 0) (.int 1))) (.str [32])) (.call .show_saying (.cons (.ix (.var 0) (.int 2)) .nil)))) .nil) .nil) (.cons (.iff (.cmp .eq (.ix (.var 0) (.int 1)) (.tup .nil)) (.cons (.ret (.disp [97, 110, 100] [116, 114, 117, 101] [111, 114] [102, 97, 108, 115, 101] (.var 1))) .nil) .nil) (.cons (.set 2 (.bin .add (.bin .add (.str [32]) (.var 1)) (.str [32]))) (.cons (.ret (.bin .add (.bin .add (.str [40]) (.join (.var 2) (.comp false (.call .show_saying (.cons (.var 3) .nil)) (.one 3) (.val (.ix (.var 0) (.int 1))) (.bl true)))) (.str [41]))) .nil))))))))))
def n_show_saying : List PySem.Str := ["saying", "head", "between", "part"]
/- word_end: text at -/
def b_word_end : MSs := (.cons (.while_ (.and2 (.cmp .lt (.var 1) (.b1 .len1 (.var 0))) (.cmp .isin (.ix (.var 0) (.var 1)) (.glo .LETTERS))) (.cons (.set 1 (.bin .add (.var 1) (.int 1))) .nil)) (.cons (.ret (.var 1)) .nil))
def n_word_end : List PySem.Str := ["text", "at"]
/- past: text at piece -/
def b_past : MSs := (.cons (.iff (.cmp .ne (.sl (.var 0) (.ok (.var 1)) (.ok (.bin .add (.var 1) (.b1 .len1 (.var 2))))) (.var 2)) (.cons (.never) .nil) .nil) (.cons (.ret (.bin .add (.var 1) (.b1 .len1 (.var 2)))) .nil))
def n_past : List PySem.Str := ["text", "at", "piece"]
/- letter_at: text at -/
def b_letter_at : MSs := (.cons (.iff (.not1 (.call .is_letter (.cons (.sl (.var 0) (.ok (.var 1)) (.ok (.bin .add (.var 1) (.int 1)))) .nil))) (.cons (.never) .nil) .nil) (.cons (.ret (.ix (.var 0) (.var 1))) .nil))
def n_letter_at : List PySem.Str := ["text", "at"]
/- read_named: text at name one other -/
def b_read_named : MSs := (.cons (.set 1 (.call .past (.cons (.var 0) (.cons (.var 1) (.cons (.str [40]) .nil))))) (.cons (.set 3 (.call .letter_at (.cons (.var 0) (.cons (.var 1) .nil)))) (.cons (.iff (.cmp .eq (.sl (.var 0) (.ok (.bin .add (.var 1) (.int 1))) (.ok (.bin .add (.var 1) (.int 2)))) (.str [32])) (.cons (.set 4 (.call .letter_at (.cons (.var 0) (.cons (.bin .add (.var 1) (.int 2)) .nil)))) (.cons (.ret (.tup (.cons (.tup (.cons (.str [97, 114, 114, 111, 119]) (.cons (.var 2) (.cons (.var 3) (.cons (.var 4) .nil))))) (.cons (.call .past (.cons (.var 0) (.cons (.bin .add (.var 1) (.int 3)) (.cons (.str [41]) .nil)))) .nil)))) .nil)) .nil) (.cons (.ret (.tup (.cons (.tup (.cons (.str [109, 97, 114, 107]) (.cons (.var 2) (.cons (.var 3) .nil)))) (.cons (.call .past (.cons (.var 0) (.cons (.bin .add (.var 1) (.int 1)) (.cons (.str [41]) .nil)))) .nil)))) .nil))))
def n_read_named : List PySem.Str := ["text", "at", "name", "one", "other"]
/- read_many: text at word many letter within -/
def b_read_many : MSs := (.cons (.set 1 (.call .past (.cons (.var 0) (.cons (.var 1) (.cons (.str [32]) .nil))))) (.cons (.set 3 (.int 0)) (.cons (.iff (.cmp .eq (.var 2) (.str [108, 101, 97, 115, 116])) (.cons (.iff (.or2 (.cmp .eq (.sl (.var 0) (.ok (.var 1)) (.ok (.bin .add (.var 1) (.int 1)))) (.str [])) (.cmp .notin (.ix (.var 0) (.var 1)) (.glo .FIGURES_saytexts))) (.cons (.never) .nil) .nil) (.cons (.set 3 (.b1 .int1 (.ix (.var 0) (.var 1)))) (.cons (.set 1 (.call .past (.cons (.var 0) (.cons (.bin .add (.var 1) (.int 1)) (.cons (.str [32]) .nil))))) .nil))) .nil) (.cons (.set 4 (.call .letter_at (.cons (.var 0) (.cons (.var 1) .nil)))) (.cons (.setT [5, 1] (.call .read_at (.cons (.var 0) (.cons (.call .past (.cons (.var 0) (.cons (.bin .add (.var 1) (.int 1)) (.cons (.str [32]) .nil)))) .nil)))) (.cons (.iff (.cmp .eq (.var 2) (.str [108, 101, 97, 115, 116])) (.cons (.ret (.tup (.cons (.tup (.cons (.str [108, 101, 97, 115, 116]) (.cons (.var 3) (.cons (.var 4) (.cons (.var 5) .nil))))) (.cons (.var 1) .nil)))) .nil) .nil) (.cons (.ret (.tup (.cons (.tup (.cons (.var 2) (.cons (.var 4) (.cons (.var 5) .nil)))) (.cons (.var 1) .nil)))) .nil)))))))
def n_read_many : List PySem.Str := ["text", "at", "word", "many", "letter", "within"]
/- read_joined: text at word parts first part -/
def b_read_joined : MSs := (.cons (.setT [4, 1] (.call .read_at (.cons (.var 0) (.cons (.var 1) .nil)))) (.cons (.set 2 (.str [111, 114])) (.cons (.iff (.cmp .eq (.sl (.var 0) (.ok (.var 1)) (.ok (.bin .add (.var 1) (.int 5)))) (.str [32, 97, 110, 100, 32])) (.cons (.set 2 (.str [97, 110, 100])) .nil) .nil) (.cons (.setOwn 3 (.lst (.cons (.var 4) .nil))) (.cons (.while_ (.cmp .ne (.sl (.var 0) (.ok (.var 1)) (.ok (.bin .add (.var 1) (.int 1)))) (.str [41])) (.cons (.setT [5, 1] (.call .read_at (.cons (.var 0) (.cons (.call .past (.cons (.var 0) (.cons (.var 1) (.cons (.bin .add (.bin .add (.str [32]) (.var 2)) (.str [32])) .nil)))) .nil)))) (.cons (.app 3 (.var 5)) .nil))) (.cons (.iff (.cmp .lt (.b1 .len1 (.var 3)) (.int 2)) (.cons (.never) .nil) .nil) (.cons (.ret (.tup (.cons (.tup (.cons (.var 2) (.cons (.b1 .tuple1 (.var 3)) .nil))) (.cons (.bin .add (.var 1) (.int 1)) .nil)))) .nil)))))))
def n_read_joined : List PySem.Str := ["text", "at", "word", "parts", "first", "part"]
/- read_at: text at behind word letter within -/
def b_read_at : MSs := (.cons (.iff (.cmp .eq (.sl (.var 0) (.ok (.var 1)) (.ok (.bin .add (.var 1) (.int 1)))) (.str [40])) (.cons (.ret (.call .read_joined (.cons (.var 0) (.cons (.bin .add (.var 1) (.int 1)) .nil)))) .nil) .nil) (.cons (.set 2 (.call .word_end (.cons (.var 0) (.cons (.var 1) .nil)))) (.cons (.set 3 (.sl (.var 0) (.ok (.var 1)) (.ok (.var 2)))) (.cons (.iff (.cmp .eq (.var 3) (.str [110, 111, 116])) (.cons (.setT [5, 2] (.call .read_at (.cons (.var 0) (.cons (.call .past (.cons (.var 0) (.cons (.var 2) (.cons (.str [32]) .nil)))) .nil)))) (.cons (.ret (.tup (.cons (.tup (.cons (.str [110, 111, 116]) (.cons (.var 5) .nil))) (.cons (.var 2) .nil)))) .nil)) .nil) (.cons (.iff (.or2 (.cmp .eq (.var 3) (.str [115, 111, 109, 101])) (.or2 (.cmp .eq (.var 3) (.str [101, 118, 101, 114, 121])) (.cmp .eq (.var 3) (.str [108, 101, 97, 115, 116])))) (.cons (.ret (.call .read_many (.cons (.var 0) (.cons (.var 2) (.cons (.var 3) .nil))))) .nil) .nil) (.cons (.iff (.cmp .eq (.var 3) (.str [116, 114, 117, 101])) (.cons (.ret (.tup (.cons (.tup (.cons (.str [97, 110, 100]) (.cons (.tup .nil) .nil))) (.cons (.var 2) .nil)))) .nil) .nil) (.cons (.iff (.cmp .eq (.var 3) (.str [102, 97, 108, 115, 101])) (.cons (.ret (.tup (.cons (.tup (.cons (.str [111, 114]) (.cons (.tup .nil) .nil))) (.cons (.var 2) .nil)))) .nil) .nil) (.cons (.iff (.call .is_name (.cons (.var 3) .nil)) (.cons (.ret (.call .read_named (.cons (.var 0) (.cons (.var 2) (.cons (.var 3) .nil))))) .nil) .nil) (.cons (.set 4 (.call .letter_at (.cons (.var 0) (.cons (.var 1) .nil)))) (.cons (.set 2 (.call .past (.cons (.var 0) (.cons (.bin .add (.var 1) (.int 1)) (.cons (.str [32, 61, 32]) .nil))))) (.cons (.ret (.tup (.cons (.tup (.cons (.str [115, 97, 109, 101]) (.cons (.var 4) (.cons (.call .letter_at (.cons (.var 0) (.cons (.var 2) .nil))) .nil)))) (.cons (.bin .add (.var 2) (.int 1)) .nil)))) .nil)))))))))))
def n_read_at : List PySem.Str := ["text", "at", "behind", "word", "letter", "within"]
/- read_saying: text saying at -/
def b_read_saying : MSs := (.cons (.iff (.not1 (.isi (.var 0) .tstr)) (.cons (.never) .nil) .nil) (.cons (.setT [1, 2] (.call .read_at (.cons (.var 0) (.cons (.int 0) .nil)))) (.cons (.iff (.cmp .ne (.var 2) (.b1 .len1 (.var 0))) (.cons (.never) .nil) .nil) (.cons (.ret (.var 1)) .nil))))
def n_read_saying : List PySem.Str := ["text", "saying", "at"]
/- show_world: world parts name points pairs point one other -/
def b_show_world : MSs := (.cons (.setOwn 1 (.lst (.cons (.b1 .str1 (.ix (.var 0) (.int 0))) .nil))) (.cons (.for_ (.many [2, 3]) (.val (.ix (.var 0) (.int 1))) (.cons (.app 1 (.bin .add (.bin .add (.var 2) (.str [58])) (.join (.str []) (.comp false (.bin .add (.str [32]) (.b1 .str1 (.var 5))) (.one 5) (.val (.var 3)) (.bl true))))) .nil)) (.cons (.for_ (.many [2, 4]) (.val (.ix (.var 0) (.int 2))) (.cons (.app 1 (.bin .add (.bin .add (.var 2) (.str [62])) (.join (.str []) (.comp false (.fstr [32] (.var 6) [45] (.var 7)) (.many [6, 7]) (.val (.var 4)) (.bl true))))) .nil)) (.cons (.ret (.join (.str [59, 32]) (.var 1))) .nil))))
def n_show_world : List PySem.Str := ["world", "parts", "name", "points", "pairs", "point", "one", "other"]
/- read_point: text -/
def b_read_point : MSs := (.cons (.iff (.or2 (.cmp .ne (.b1 .len1 (.var 0)) (.int 1)) (.cmp .notin (.var 0) (.glo .FIGURES_worldtexts))) (.cons (.never) .nil) .nil) (.cons (.ret (.b1 .int1 (.var 0))) .nil))
def n_read_point : List PySem.Str := ["text"]
/- read_pair: text one line other -/
def b_read_pair : MSs := (.cons (.setT [1, 2, 3] (.part (.var 0) (.str [45]))) (.cons (.iff (.cmp .eq (.var 2) (.str [])) (.cons (.never) .nil) .nil) (.cons (.ret (.tup (.cons (.call .read_point (.cons (.var 1) .nil)) (.cons (.call .read_point (.cons (.var 3) .nil)) .nil)))) .nil)))
def n_read_pair : List PySem.Str := ["text", "one", "line", "other"]
/- read_part: text words name sign word -/
def b_read_part : MSs := (.cons (.set 1 (.split (.var 0) (.str [32]))) (.cons (.set 2 (.sl (.ix (.var 1) (.int 0)) .no (.ok (.neg (.int 1))))) (.cons (.set 3 (.sl (.ix (.var 1) (.int 0)) (.ok (.neg (.int 1))) .no)) (.cons (.iff (.or2 (.not1 (.call .is_name (.cons (.var 2) .nil))) (.and2 (.cmp .ne (.var 3) (.str [58])) (.cmp .ne (.var 3) (.str [62])))) (.cons (.never) .nil) .nil) (.cons (.iff (.cmp .eq (.var 3) (.str [58])) (.cons (.ret (.tup (.cons (.var 3) (.cons (.var 2) (.cons (.b1 .tuple1 (.comp false (.call .read_point (.cons (.var 4) .nil)) (.one 4) (.val (.sl (.var 1) (.ok (.int 1)) .no)) (.bl true))) .nil))))) .nil) .nil) (.cons (.ret (.tup (.cons (.var 3) (.cons (.var 2) (.cons (.b1 .tuple1 (.comp false (.call .read_pair (.cons (.var 4) .nil)) (.one 4) (.val (.sl (.var 1) (.ok (.int 1)) .no)) (.bl true))) .nil))))) .nil))))))
def n_read_part : List PySem.Str := ["text", "words", "name", "sign", "word"]
/- read_world: text parts many some marks arrows world part -/
def b_read_world : MSs := (.cons (.iff (.not1 (.isi (.var 0) .tstr)) (.cons (.never) .nil) .nil) (.cons (.set 1 (.split (.var 0) (.str [59, 32]))) (.cons (.set 2 (.call .read_point (.cons (.ix (.var 1) (.int 0)) .nil))) (.cons (.setLc 3 (.comp false (.call .read_part (.cons (.var 7) .nil)) (.one 7) (.val (.sl (.var 1) (.ok (.int 1)) .no)) (.bl true))) (.cons (.set 4 (.b1 .tuple1 (.comp true (.tup (.cons (.ix (.var 7) (.int 1)) (.cons (.ix (.var 7) (.int 2)) .nil))) (.one 7) (.val (.var 3)) (.cmp .eq (.ix (.var 7) (.int 0)) (.str [58]))))) (.cons (.set 5 (.b1 .tuple1 (.comp true (.tup (.cons (.ix (.var 7) (.int 1)) (.cons (.ix (.var 7) (.int 2)) .nil))) (.one 7) (.val (.var 3)) (.cmp .eq (.ix (.var 7) (.int 0)) (.str [62]))))) (.cons (.set 6 (.tup (.cons (.var 2) (.cons (.var 4) (.cons (.var 5) .nil))))) (.cons (.iff (.or2 (.not1 (.call .is_world (.cons (.var 6) .nil))) (.cmp .ne (.call .show_world (.cons (.var 6) .nil)) (.var 0))) (.cons (.never) .nil) .nil) (.cons (.ret (.var 6)) .nil)))))))))
def n_read_world : List PySem.Str := ["text", "parts", "many", "some", "marks", "arrows", "world", "part"]
/- fits_form: words form sign word -/
def b_fits_form : MSs := (.cons (.set 1 (.fget (.ix (.var 0) (.int 0)))) (.cons (.iff (.or2 (.cmp .isN (.var 1) .non) (.cmp .lt (.b1 .len1 (.var 0)) (.bin .add (.b1 .len1 (.var 1)) (.int 1)))) (.cons (.ret (.bl false)) .nil) .nil) (.cons (.iff (.cmp .eq (.cmp .eq (.b1 .len1 (.var 0)) (.bin .add (.b1 .len1 (.var 1)) (.int 1))) (.cmp .isin (.ix (.var 0) (.int 0)) (.glo .LONGER))) (.cons (.ret (.bl false)) .nil) .nil) (.cons (.for_ (.many [2, 3]) (.zip (.var 1) (.sl (.var 0) (.ok (.int 1)) .no)) (.cons (.iff (.or2 (.and2 (.cmp .eq (.var 2) (.str [70])) (.or2 (.cmp .ne (.b1 .len1 (.var 3)) (.int 1)) (.cmp .notin (.var 3) (.glo .FIGURES_desk)))) (.and2 (.cmp .ne (.var 2) (.str [70])) (.not1 (.call .is_name (.cons (.var 3) .nil))))) (.cons (.ret (.bl false)) .nil) .nil) .nil)) (.cons (.ret (.bl true)) .nil)))))
def n_fits_form : List PySem.Str := ["words", "form", "sign", "word"]
/- _law_cell: _law_script _law_k -/
def b_law_cell : MSs := (.cons (.iff (.cmp .lt (.var 1) (.b1 .len1 (.var 0))) (.cons (.ret (.bin .mod (.ix (.var 0) (.var 1)) (.bin .pow (.int 2) (.int 64)))) .nil) .nil) (.cons (.ret (.int 0)) .nil))
def n_law_cell : List PySem.Str := ["_law_script", "_law_k"]
/- _law_names: _law_cell_here _law_many _law_number _law_base _law_size _law_at _law_found _law_k _law_words _law_first _law_signs _law_sign -/
def b_law_names : MSs := (.cons (.set 2 (.bin .mod (.bin .mul (.var 0) (.int 7129)) (.int 1000033))) (.cons (.set 3 (.ix (.str [98, 99, 100, 102, 103]) (.bin .mod (.var 2) (.int 5)))) (.cons (.set 4 (.bin .add (.int 2) (.bin .mod (.bin .fdiv (.var 2) (.int 5)) (.int 7)))) (.cons (.iff (.cmp .eq (.bin .mod (.bin .fdiv (.var 2) (.int 35)) (.int 4)) (.int 1)) (.cons (.ret (.comp false (.bin .mul (.var 3) (.bin .add (.int 2) (.var 7))) (.one 7) (.r1 (.var 1)) (.bl true))) .nil) .nil) (.cons (.iff (.cmp .eq (.bin .mod (.bin .fdiv (.var 2) (.int 35)) (.int 4)) (.int 2)) (.cons (.set 8 (.lst (.cons (.str [97, 110, 100]) (.cons (.str [111, 114]) (.cons (.str [110, 111, 116]) (.cons (.str [115, 111, 109, 101]) (.cons (.str [101, 118, 101, 114, 121]) (.cons (.str [108, 101, 97, 115, 116]) (.cons (.str [116, 114, 117, 101]) (.cons (.str [102, 97, 108, 115, 101]) .nil)))))))))) (.cons (.set 9 (.bin .mod (.bin .fdiv (.var 2) (.int 140)) (.int 8))) (.cons (.set 10 (.str [97, 98, 99, 100, 101, 102, 103, 104, 105, 106, 107, 108, 109, 110, 111, 112, 113, 114, 115, 116, 117, 118, 119, 120, 121, 122])) (.cons (.ret (.b1 .sorted1 (.comp false (.bin .add (.ix (.bin .add (.var 8) (.var 8)) (.bin .add (.var 9) (.var 7))) (.ix (.var 10) (.bin .mod (.bin .fdiv (.var 2) (.int 1120)) (.int 26)))) (.one 7) (.r1 (.var 1)) (.bl true)))) .nil)))) .nil) (.cons (.set 5 (.bin .mod (.bin .fdiv (.var 2) (.int 105)) (.var 4))) (.cons (.setOwn 6 (.lst .nil)) (.cons (.for_ (.one 7) (.r1 (.var 1)) (.cons (.set 11 (.ix (.str [97, 98, 99, 100, 101, 102, 103, 104, 105, 106, 107, 108, 109, 110, 111, 112, 113, 114, 115, 116, 117, 118, 119, 120, 121, 122]) (.bin .mod (.bin .add (.bin .fdiv (.var 2) (.int 840)) (.bin .mul (.int 5) (.var 7))) (.int 26)))) (.cons (.app 6 (.bin .add (.bin .add (.bin .mul (.var 3) (.var 5)) (.var 11)) (.bin .mul (.var 3) (.bin .sub (.bin .sub (.var 4) (.int 1)) (.var 5))))) .nil))) (.cons (.ret (.b1 .sorted1 (.var 6))) .nil)))))))))
def n_law_names : List PySem.Str := ["_law_cell_here", "_law_many", "_law_number", "_law_base", "_law_size", "_law_at", "_law_found", "_law_k", "_law_words", "_law_first", "_law_signs", "_law_sign"]
/- _law_some: _law_bits _law_many _law_found _law_point -/
def b_law_some : MSs := (.cons (.setOwn 2 (.lst .nil)) (.cons (.for_ (.one 3) (.r1 (.var 1)) (.cons (.iff (.cmp .eq (.bin .mod (.var 0) (.int 2)) (.int 1)) (.cons (.app 2 (.var 3)) .nil) .nil) (.cons (.set 0 (.bin .fdiv (.var 0) (.int 2))) .nil))) (.cons (.ret (.b1 .tuple1 (.var 2))) .nil)))
def n_law_some : List PySem.Str := ["_law_bits", "_law_many", "_law_found", "_law_point"]
/- _law_pairs: _law_bits _law_many _law_found _law_one _law_other -/
def b_law_pairs : MSs := (.cons (.setOwn 2 (.lst .nil)) (.cons (.for_ (.one 3) (.r1 (.var 1)) (.cons (.for_ (.one 4) (.r1 (.var 1)) (.cons (.iff (.cmp .eq (.bin .mod (.var 0) (.int 2)) (.int 1)) (.cons (.app 2 (.tup (.cons (.var 3) (.cons (.var 4) .nil)))) .nil) .nil) (.cons (.set 0 (.bin .fdiv (.var 0) (.int 2))) .nil))) .nil)) (.cons (.ret (.b1 .tuple1 (.var 2))) .nil)))
def n_law_pairs : List PySem.Str := ["_law_bits", "_law_many", "_law_found", "_law_one", "_law_other"]
/- _law_tongue: _law_cell_here _law_names_here _law_number _law_first -/
def b_law_tongue : MSs := (.cons (.set 1 (.call .law_names (.cons (.var 0) (.cons (.int 6) .nil)))) (.cons (.set 2 (.bin .mod (.bin .mul (.var 0) (.int 523)) (.int 10007))) (.cons (.set 3 (.bin .mod (.bin .fdiv (.var 2) (.int 16)) (.int 3))) (.cons (.ret (.tup (.cons (.b1 .tuple1 (.sl (.var 1) .no (.ok (.bin .mod (.var 2) (.int 4))))) (.cons (.b1 .tuple1 (.sl (.var 1) (.ok (.var 3)) (.ok (.bin .add (.var 3) (.bin .mod (.bin .fdiv (.var 2) (.int 4)) (.int 4)))))) .nil)))) .nil))))
def n_law_tongue : List PySem.Str := ["_law_cell_here", "_law_names_here", "_law_number", "_law_first"]
/- _law_world: _law_script _law_at _law_many _law_tongue_here _law_marks _law_k _law_arrows _law_bits -/
def b_law_world : MSs := (.cons (.setOwn 4 (.lst .nil)) (.cons (.for_ (.one 5) (.r1 (.b1 .len1 (.ix (.var 3) (.int 0)))) (.cons (.app 4 (.tup (.cons (.ix (.ix (.var 3) (.int 0)) (.var 5)) (.cons (.call .law_some (.cons (.bin .mod (.bin .mul (.call .law_cell (.cons (.var 0) (.cons (.bin .add (.var 1) (.var 5)) .nil))) (.int 167)) (.bin .pow (.int 2) (.int 8))) (.cons (.var 2) .nil))) .nil)))) .nil)) (.cons (.setOwn 6 (.lst .nil)) (.cons (.for_ (.one 5) (.r1 (.b1 .len1 (.ix (.var 3) (.int 1)))) (.cons (.set 7 (.bin .mod (.bin .mul (.call .law_cell (.cons (.var 0) (.cons (.bin .add (.bin .add (.var 1) (.int 3)) (.var 5)) .nil))) (.int 11400714819323198485)) (.bin .pow (.int 2) (.int 64)))) (.cons (.app 6 (.tup (.cons (.ix (.ix (.var 3) (.int 1)) (.var 5)) (.cons (.call .law_pairs (.cons (.var 7) (.cons (.var 2) .nil))) .nil)))) .nil))) (.cons (.ret (.tup (.cons (.var 2) (.cons (.b1 .tuple1 (.var 4)) (.cons (.b1 .tuple1 (.var 6)) .nil))))) .nil)))))
def n_law_world : List PySem.Str := ["_law_script", "_law_at", "_law_many", "_law_tongue_here", "_law_marks", "_law_k", "_law_arrows", "_law_bits"]
/- _law_even: _law_number _law_many _law_steps _law_both _law_found _law_one _law_other _law_k _law_far -/
def b_law_even : MSs := (.cons (.setLc 2 (.comp true (.var 7) (.one 7) (.r1 (.var 1)) (.cmp .eq (.bin .land (.bin .shr (.var 0) (.var 7)) (.int 1)) (.int 1)))) (.cons (.set 3 (.bin .mod (.bin .fdiv (.var 0) (.int 16)) (.int 2))) (.cons (.setOwn 4 (.lst .nil)) (.cons (.for_ (.one 5) (.r1 (.var 1)) (.cons (.for_ (.one 6) (.r1 (.var 1)) (.cons (.set 8 (.bin .mod (.bin .sub (.var 6) (.var 5)) (.var 1))) (.cons (.iff (.or2 (.cmp .isin (.var 8) (.var 2)) (.and2 (.cmp .eq (.var 3) (.int 1)) (.cmp .isin (.bin .mod (.bin .sub (.var 5) (.var 6)) (.var 1)) (.var 2)))) (.cons (.app 4 (.tup (.cons (.var 5) (.cons (.var 6) .nil)))) .nil) .nil) .nil))) .nil)) (.cons (.ret (.b1 .tuple1 (.var 4))) .nil)))))
def n_law_even : List PySem.Str := ["_law_number", "_law_many", "_law_steps", "_law_both", "_law_found", "_law_one", "_law_other", "_law_k", "_law_far"]
/- _law_shaped: _law_script _law_at _law_many _law_tongue_here _law_world_here _law_number _law_arrows _law_k _law_marks _law_pairs_here _law_name _law_points _law_pair -/
def b_law_shaped : MSs := (.cons (.set 4 (.call .law_world (.cons (.var 0) (.cons (.var 1) (.cons (.var 2) (.cons (.var 3) .nil)))))) (.cons (.set 5 (.bin .mod (.bin .mul (.call .law_cell (.cons (.var 0) (.cons (.bin .add (.var 1) (.int 6)) .nil))) (.int 1283)) (.int 100003))) (.cons (.setOwn 6 (.lst .nil)) (.cons (.for_ (.one 7) (.r1 (.b1 .len1 (.ix (.var 4) (.int 2)))) (.cons (.set 9 (.ix (.ix (.ix (.var 4) (.int 2)) (.var 7)) (.int 1))) (.cons (.iff (.cmp .eq (.bin .mod (.var 5) (.int 3)) (.int 1)) (.cons (.set 9 (.call .law_even (.cons (.bin .add (.bin .fdiv (.var 5) (.int 3)) (.bin .mul (.int 5) (.var 7))) (.cons (.var 2) .nil)))) .nil) .nil) (.cons (.iff (.cmp .eq (.bin .mod (.var 5) (.int 3)) (.int 2)) (.cons (.set 9 (.b1 .tuple1 (.comp true (.var 12) (.one 12) (.val (.var 9)) (.or2 (.cmp .lt (.ix (.var 12) (.int 0)) (.int 2)) (.cmp .gt (.ix (.var 12) (.int 1)) (.int 1)))))) .nil) .nil) (.cons (.app 6 (.tup (.cons (.ix (.ix (.ix (.var 4) (.int 2)) (.var 7)) (.int 0)) (.cons (.var 9) .nil)))) .nil))))) (.cons (.setLc 8 (.comp false (.tup (.cons (.var 10) (.cons (.sl (.var 11) .no (.ok (.bin .mod (.bin .fdiv (.var 5) (.int 81)) (.int 5)))) .nil))) (.many [10, 11]) (.val (.ix (.var 4) (.int 1))) (.bl true))) (.cons (.ret (.tup (.cons (.var 2) (.cons (.b1 .tuple1 (.var 8)) (.cons (.b1 .tuple1 (.var 6)) .nil))))) .nil))))))
def n_law_shaped : List PySem.Str := ["_law_script", "_law_at", "_law_many", "_law_tongue_here", "_law_world_here", "_law_number", "_law_arrows", "_law_k", "_law_marks", "_law_pairs_here", "_law_name", "_law_points", "_law_pair"]
/- _law_order: _law_number _law_many _law_left _law_found _law_k _law_at -/
def b_law_order : MSs := (.cons (.set 2 (.lrng (.var 1))) (.cons (.setOwn 3 (.lst .nil)) (.cons (.for_ (.one 4) (.r1 (.var 1)) (.cons (.set 5 (.bin .mod (.var 0) (.b1 .len1 (.var 2)))) (.cons (.set 0 (.bin .add (.bin .fdiv (.var 0) (.int 11)) (.bin .mul (.int 7) (.var 5)))) (.cons (.app 3 (.ix (.var 2) (.var 5))) (.cons (.set 2 (.bin .add (.sl (.var 2) .no (.ok (.var 5))) (.sl (.var 2) (.ok (.bin .add (.var 5) (.int 1))) .no))) .nil))))) (.cons (.ret (.b1 .tuple1 (.var 3))) .nil))))
def n_law_order : List PySem.Str := ["_law_number", "_law_many", "_law_left", "_law_found", "_law_k", "_law_at"]
/- _law_turned: _law_world_here _law_order_here _law_marks _law_arrows _law_name _law_points _law_pairs_here _law_point _law_one _law_other -/
def b_law_turned : MSs := (.cons (.setOwn 2 (.lst .nil)) (.cons (.for_ (.many [4, 5]) (.val (.ix (.var 0) (.int 1))) (.cons (.app 2 (.tup (.cons (.var 4) (.cons (.b1 .tuple1 (.b1 .sorted1 (.comp false (.ix (.var 1) (.var 7)) (.one 7) (.val (.var 5)) (.bl true)))) .nil)))) .nil)) (.cons (.setOwn 3 (.lst .nil)) (.cons (.for_ (.many [4, 6]) (.val (.ix (.var 0) (.int 2))) (.cons (.app 3 (.tup (.cons (.var 4) (.cons (.b1 .tuple1 (.b1 .sorted1 (.comp false (.tup (.cons (.ix (.var 1) (.var 8)) (.cons (.ix (.var 1) (.var 9)) .nil))) (.many [8, 9]) (.val (.var 6)) (.bl true)))) .nil)))) .nil)) (.cons (.ret (.tup (.cons (.ix (.var 0) (.int 0)) (.cons (.b1 .tuple1 (.var 2)) (.cons (.b1 .tuple1 (.var 3)) .nil))))) .nil)))))
def n_law_turned : List PySem.Str := ["_law_world_here", "_law_order_here", "_law_marks", "_law_arrows", "_law_name", "_law_points", "_law_pairs_here", "_law_point", "_law_one", "_law_other"]
/- _law_flipped: _law_some_here _law_thing _law_one -/
def b_law_flipped : MSs := (.cons (.iff (.cmp .isin (.var 1) (.var 0)) (.cons (.ret (.b1 .tuple1 (.comp true (.var 2) (.one 2) (.val (.var 0)) (.cmp .ne (.var 2) (.var 1))))) .nil) .nil) (.cons (.ret (.b1 .tuple1 (.b1 .sorted1 (.bin .add (.b1 .list1 (.var 0)) (.lst (.cons (.var 1) .nil)))))) .nil))
def n_law_flipped : List PySem.Str := ["_law_some_here", "_law_thing", "_law_one"]
/- _law_changed: _law_world_here _law_number _law_marks _law_arrows _law_at _law_pair -/
def b_law_changed : MSs := (.cons (.setOwn 2 (.b1 .list1 (.ix (.var 0) (.int 1)))) (.cons (.setOwn 3 (.b1 .list1 (.ix (.var 0) (.int 2)))) (.cons (.iff (.and2 (.cmp .ne (.var 2) (.lst .nil)) (.or2 (.cmp .eq (.bin .mod (.var 1) (.int 3)) (.int 0)) (.cmp .eq (.var 3) (.lst .nil)))) (.cons (.set 4 (.bin .mod (.bin .fdiv (.var 1) (.int 3)) (.b1 .len1 (.var 2)))) (.cons (.put 2 (.var 4) (.tup (.cons (.ix (.ix (.var 2) (.var 4)) (.int 0)) (.cons (.call .law_flipped (.cons (.ix (.ix (.var 2) (.var 4)) (.int 1)) (.cons (.bin .mod (.bin .fdiv (.var 1) (.int 9)) (.ix (.var 0) (.int 0))) .nil))) .nil)))) .nil)) (.cons (.iff (.cmp .ne (.var 3) (.lst .nil)) (.cons (.set 4 (.bin .mod (.bin .fdiv (.var 1) (.int 3)) (.b1 .len1 (.var 3)))) (.cons (.set 5 (.tup (.cons (.bin .mod (.bin .fdiv (.var 1) (.int 9)) (.ix (.var 0) (.int 0))) (.cons (.bin .mod (.bin .fdiv (.var 1) (.int 72)) (.ix (.var 0) (.int 0))) .nil)))) (.cons (.put 3 (.var 4) (.tup (.cons (.ix (.ix (.var 3) (.var 4)) (.int 0)) (.cons (.call .law_flipped (.cons (.ix (.ix (.var 3) (.var 4)) (.int 1)) (.cons (.var 5) .nil))) .nil)))) .nil))) .nil) .nil)) (.cons (.ret (.tup (.cons (.ix (.var 0) (.int 0)) (.cons (.b1 .tuple1 (.var 2)) (.cons (.b1 .tuple1 (.var 3)) .nil))))) .nil))))
def n_law_changed : List PySem.Str := ["_law_world_here", "_law_number", "_law_marks", "_law_arrows", "_law_at", "_law_pair"]
/- _law_two: _law_script _law_at _law_most _law_number _law_tongue_here _law_many _law_one _law_way _law_other _law_k -/
def b_law_two : MSs := (.cons (.set 3 (.bin .mod (.bin .mul (.call .law_cell (.cons (.var 0) (.cons (.var 1) .nil))) (.int 6257)) (.int 1000003))) (.cons (.set 4 (.call .law_tongue (.cons (.call .law_cell (.cons (.var 0) (.cons (.bin .add (.var 1) (.int 1)) .nil))) .nil))) (.cons (.set 5 (.bin .add (.int 1) (.bin .mod (.var 3) (.var 2)))) (.cons (.set 6 (.call .law_shaped (.cons (.var 0) (.cons (.bin .add (.var 1) (.int 2)) (.cons (.var 5) (.cons (.var 4) .nil)))))) (.cons (.set 7 (.bin .mod (.bin .fdiv (.var 3) (.int 4)) (.int 5))) (.cons (.iff (.cmp .lt (.var 7) (.int 2)) (.cons (.ret (.tup (.cons (.var 6) (.cons (.call .law_shaped (.cons (.var 0) (.cons (.bin .add (.var 1) (.int 10)) (.cons (.bin .add (.int 1) (.bin .mod (.bin .fdiv (.var 3) (.int 20)) (.var 2))) (.cons (.var 4) .nil))))) .nil)))) .nil) .nil) (.cons (.set 8 (.call .law_turned (.cons (.var 6) (.cons (.call .law_order (.cons (.call .law_cell (.cons (.var 0) (.cons (.bin .add (.var 1) (.int 9)) .nil))) (.cons (.var 5) .nil))) .nil)))) (.cons (.for_ (.one 9) (.r1 (.ix (.lst (.cons (.int 0) (.cons (.int 1) (.cons (.int 2) .nil)))) (.bin .sub (.var 7) (.int 2)))) (.cons (.set 8 (.call .law_changed (.cons (.var 8) (.cons (.call .law_cell (.cons (.var 0) (.cons (.bin .add (.bin .add (.var 1) (.int 10)) (.var 9)) .nil))) .nil)))) .nil)) (.cons (.ret (.tup (.cons (.var 6) (.cons (.var 8) .nil)))) .nil)))))))))
def n_law_two : List PySem.Str := ["_law_script", "_law_at", "_law_most", "_law_number", "_law_tongue_here", "_law_many", "_law_one", "_law_way", "_law_other", "_law_k"]
/- _law_text: _law_world_here _law_parts _law_name _law_points _law_pairs_here _law_point _law_one _law_other -/
def b_law_text : MSs := (.cons (.setOwn 1 (.lst (.cons (.b1 .str1 (.ix (.var 0) (.int 0))) .nil))) (.cons (.for_ (.many [2, 3]) (.val (.ix (.var 0) (.int 1))) (.cons (.app 1 (.bin .add (.bin .add (.var 2) (.str [58])) (.join (.str []) (.comp false (.bin .add (.str [32]) (.b1 .str1 (.var 5))) (.one 5) (.val (.var 3)) (.bl true))))) .nil)) (.cons (.for_ (.many [2, 4]) (.val (.ix (.var 0) (.int 2))) (.cons (.app 1 (.bin .add (.bin .add (.var 2) (.str [62])) (.join (.str []) (.comp false (.bin .add (.bin .add (.bin .add (.str [32]) (.b1 .str1 (.var 6))) (.str [45])) (.b1 .str1 (.var 7))) (.many [6, 7]) (.val (.var 4)) (.bl true))))) .nil)) (.cons (.ret (.join (.str [59, 32]) (.var 1))) .nil))))
def n_law_text : List PySem.Str := ["_law_world_here", "_law_parts", "_law_name", "_law_points", "_law_pairs_here", "_law_point", "_law_one", "_law_other"]
/- _law_letters: _law_cell_here _law_k -/
def b_law_letters : MSs := (.cons (.ret (.comp false (.ix (.str [97, 98, 99, 100, 101, 102, 103, 104, 105, 106, 107, 108, 109, 110, 111, 112, 113, 114, 115, 116, 117, 118, 119, 120, 121, 122]) (.bin .mod (.bin .add (.var 0) (.bin .mul (.int 7) (.var 1))) (.int 26))) (.one 1) (.r1 (.int 4)) (.bl true))) .nil)
def n_law_letters : List PySem.Str := ["_law_cell_here", "_law_k"]
/- _law_leaf: _law_number _law_tongue_here _law_letters_here _law_one _law_other -/
def b_law_leaf : MSs := (.cons (.set 3 (.ix (.var 2) (.bin .mod (.bin .fdiv (.var 0) (.int 3)) (.int 4)))) (.cons (.set 4 (.ix (.var 2) (.bin .mod (.bin .fdiv (.var 0) (.int 12)) (.int 4)))) (.cons (.iff (.and2 (.cmp .eq (.bin .mod (.var 0) (.int 3)) (.int 0)) (.cmp .ne (.ix (.var 1) (.int 0)) (.tup .nil))) (.cons (.ret (.tup (.cons (.str [109, 97, 114, 107]) (.cons (.ix (.ix (.var 1) (.int 0)) (.bin .mod (.bin .fdiv (.var 0) (.int 48)) (.b1 .len1 (.ix (.var 1) (.int 0))))) (.cons (.var 3) .nil))))) .nil) .nil) (.cons (.iff (.and2 (.cmp .eq (.bin .mod (.var 0) (.int 3)) (.int 1)) (.cmp .ne (.ix (.var 1) (.int 1)) (.tup .nil))) (.cons (.ret (.tup (.cons (.str [97, 114, 114, 111, 119]) (.cons (.ix (.ix (.var 1) (.int 1)) (.bin .mod (.bin .fdiv (.var 0) (.int 48)) (.b1 .len1 (.ix (.var 1) (.int 1))))) (.cons (.var 3) (.cons (.var 4) .nil)))))) .nil) .nil) (.cons (.ret (.tup (.cons (.str [115, 97, 109, 101]) (.cons (.var 3) (.cons (.var 4) .nil))))) .nil)))))
def n_law_leaf : List PySem.Str := ["_law_number", "_law_tongue_here", "_law_letters_here", "_law_one", "_law_other"]
/- _law_wrapped: _law_number _law_letters_here _law_top _law_letter _law_saying _law_deep _law_high -/
def b_law_wrapped : MSs := (.cons (.setT [4, 5, 6] (.var 2)) (.cons (.set 3 (.ix (.var 1) (.bin .mod (.bin .fdiv (.var 0) (.int 5)) (.int 4)))) (.cons (.iff (.or2 (.cmp .eq (.bin .mod (.var 0) (.int 5)) (.int 0)) (.cmp .gt (.var 5) (.int 2))) (.cons (.ret (.tup (.cons (.tup (.cons (.str [110, 111, 116]) (.cons (.var 4) .nil))) (.cons (.var 5) (.cons (.bin .add (.var 6) (.int 1)) .nil))))) .nil) .nil) (.cons (.iff (.cmp .eq (.bin .mod (.var 0) (.int 5)) (.int 4)) (.cons (.ret (.tup (.cons (.tup (.cons (.str [108, 101, 97, 115, 116]) (.cons (.bin .add (.int 1) (.bin .mod (.bin .fdiv (.var 0) (.int 20)) (.ix (.lst (.cons (.int 9) (.cons (.int 3) .nil))) (.bin .mod (.bin .fdiv (.var 0) (.int 200)) (.int 2))))) (.cons (.var 3) (.cons (.var 4) .nil))))) (.cons (.bin .add (.var 5) (.int 1)) (.cons (.bin .add (.var 6) (.int 1)) .nil))))) .nil) .nil) (.cons (.ret (.tup (.cons (.tup (.cons (.ix (.lst (.cons (.str [115, 111, 109, 101]) (.cons (.str [101, 118, 101, 114, 121]) .nil))) (.bin .mod (.var 0) (.int 2))) (.cons (.var 3) (.cons (.var 4) .nil)))) (.cons (.bin .add (.var 5) (.int 1)) (.cons (.bin .add (.var 6) (.int 1)) .nil))))) .nil)))))
def n_law_wrapped : List PySem.Str := ["_law_number", "_law_letters_here", "_law_top", "_law_letter", "_law_saying", "_law_deep", "_law_high"]
/- _law_joined: _law_number _law_some_here _law_parts _law_deep _law_high _law_one -/
def b_law_joined : MSs := (.cons (.set 2 (.b1 .tuple1 (.comp false (.ix (.var 5) (.int 0)) (.one 5) (.val (.var 1)) (.bl true)))) (.cons (.set 3 (.b1 .maxd (.comp false (.ix (.var 5) (.int 1)) (.one 5) (.val (.var 1)) (.bl true)))) (.cons (.set 4 (.b1 .maxd (.comp false (.ix (.var 5) (.int 2)) (.one 5) (.val (.var 1)) (.bl true)))) (.cons (.iff (.cmp .eq (.b1 .len1 (.var 1)) (.int 1)) (.cons (.ret (.ix (.var 1) (.int 0))) .nil) .nil) (.cons (.ret (.tup (.cons (.tup (.cons (.ix (.lst (.cons (.str [97, 110, 100]) (.cons (.str [111, 114]) .nil))) (.bin .mod (.var 0) (.int 2))) (.cons (.var 2) .nil))) (.cons (.var 3) (.cons (.bin .add (.var 4) (.int 1)) .nil))))) .nil)))))
def n_law_joined : List PySem.Str := ["_law_number", "_law_some_here", "_law_parts", "_law_deep", "_law_high", "_law_one"]
/- _law_grown: _law_cells _law_tongue_here _law_letters_here _law_stack _law_k _law_number _law_way _law_rest _law_many -/
def b_law_grown : MSs := (.cons (.setOwn 3 (.lst .nil)) (.cons (.for_ (.one 4) (.r1 (.b1 .len1 (.var 0))) (.cons (.set 5 (.bin .mod (.bin .mul (.bin .add (.bin .mod (.ix (.var 0) (.var 4)) (.bin .pow (.int 2) (.int 64))) (.bin .mul (.int 613) (.var 4))) (.int 71993)) (.int 998244353))) (.cons (.set 6 (.bin .mod (.var 5) (.int 7))) (.cons (.set 7 (.bin .fdiv (.var 5) (.int 7))) (.cons (.iff (.or2 (.cmp .eq (.var 3) (.lst .nil)) (.or2 (.cmp .lt (.var 6) (.int 3)) (.cmp .gt (.ix (.ix (.var 3) (.neg (.int 1))) (.int 2)) (.int 11)))) (.cons (.app 3 (.tup (.cons (.call .law_leaf (.cons (.var 7) (.cons (.var 1) (.cons (.var 2) .nil)))) (.cons (.int 0) (.cons (.int 0) .nil))))) .nil) (.cons (.iff (.and2 (.cmp .eq (.var 6) (.int 3)) (.cmp .gt (.b1 .len1 (.var 3)) (.int 1))) (.cons (.set 8 (.bin .add (.int 2) (.bin .mod (.bin .fdiv (.var 7) (.int 2)) (.int 2)))) (.cons (.setOwn 3 (.bin .add (.sl (.var 3) .no (.ok (.neg (.var 8)))) (.lst (.cons (.call .law_joined (.cons (.var 7) (.cons (.sl (.var 3) (.ok (.neg (.var 8))) .no) .nil))) .nil)))) .nil)) (.cons (.iff (.and2 (.cmp .eq (.var 6) (.int 4)) (.cmp .eq (.bin .mod (.var 7) (.int 4)) (.int 0))) (.cons (.app 3 (.tup (.cons (.tup (.cons (.ix (.lst (.cons (.str [97, 110, 100]) (.cons (.str [111, 114]) .nil))) (.bin .mod (.bin .fdiv (.var 7) (.int 4)) (.int 2))) (.cons (.tup .nil) .nil))) (.cons (.int 0) (.cons (.int 0) .nil))))) .nil) (.cons (.setOwn 3 (.bin .add (.sl (.var 3) .no (.ok (.neg (.int 1)))) (.lst (.cons (.call .law_wrapped (.cons (.var 7) (.cons (.var 2) (.cons (.ix (.var 3) (.neg (.int 1))) .nil)))) .nil)))) .nil)) .nil)) .nil)) .nil))))) (.cons (.frz 3) (.cons (.ret (.ix (.call .law_joined (.cons (.b1 .len1 (.var 0)) (.cons (.var 3) .nil))) (.int 0))) .nil))))
def n_law_grown : List PySem.Str := ["_law_cells", "_law_tongue_here", "_law_letters_here", "_law_stack", "_law_k", "_law_number", "_law_way", "_law_rest", "_law_many"]
/- _law_enough: _law_world_here _law_saying _law_places _law_many _law_point _law_known -/
def b_law_enough : MSs := (.cons (.set 3 (.int 0)) (.cons (.for_ (.one 4) (.r1 (.ix (.var 0) (.int 0))) (.cons (.setOwn 5 (.b1 .dict1 (.var 2))) (.cons (.dput 5 (.ix (.var 1) (.neg (.int 2))) (.var 4)) (.cons (.frz 5) (.cons (.iff (.call .law_true (.cons (.var 0) (.cons (.ix (.var 1) (.neg (.int 1))) (.cons (.var 5) .nil)))) (.cons (.set 3 (.bin .add (.var 3) (.int 1))) .nil) .nil) .nil))))) (.cons (.iff (.cmp .eq (.ix (.var 1) (.int 0)) (.str [115, 111, 109, 101])) (.cons (.ret (.cmp .gt (.var 3) (.int 0))) .nil) .nil) (.cons (.iff (.cmp .eq (.ix (.var 1) (.int 0)) (.str [101, 118, 101, 114, 121])) (.cons (.ret (.cmp .eq (.var 3) (.ix (.var 0) (.int 0)))) .nil) .nil) (.cons (.ret (.cmp .ge (.var 3) (.ix (.var 1) (.int 1)))) .nil)))))
def n_law_enough : List PySem.Str := ["_law_world_here", "_law_saying", "_law_places", "_law_many", "_law_point", "_law_known"]
/- _law_true: _law_world_here _law_saying _law_places _law_head _law_pairs_here _law_part _law_name _law_points -/
def b_law_true : MSs := (.cons (.set 3 (.ix (.var 1) (.int 0))) (.cons (.iff (.cmp .eq (.var 3) (.str [109, 97, 114, 107])) (.cons (.ret (.cmp .isin (.ix (.var 2) (.ix (.var 1) (.int 2))) (.ix (.comp true (.var 7) (.many [6, 7]) (.val (.ix (.var 0) (.int 1))) (.cmp .eq (.var 6) (.ix (.var 1) (.int 1)))) (.int 0)))) .nil) .nil) (.cons (.iff (.cmp .eq (.var 3) (.str [97, 114, 114, 111, 119])) (.cons (.set 4 (.ix (.comp true (.var 4) (.many [6, 4]) (.val (.ix (.var 0) (.int 2))) (.cmp .eq (.var 6) (.ix (.var 1) (.int 1)))) (.int 0))) (.cons (.ret (.cmp .isin (.tup (.cons (.ix (.var 2) (.ix (.var 1) (.int 2))) (.cons (.ix (.var 2) (.ix (.var 1) (.int 3))) .nil))) (.var 4))) .nil)) .nil) (.cons (.iff (.cmp .eq (.var 3) (.str [115, 97, 109, 101])) (.cons (.ret (.cmp .eq (.ix (.var 2) (.ix (.var 1) (.int 1))) (.ix (.var 2) (.ix (.var 1) (.int 2))))) .nil) .nil) (.cons (.iff (.cmp .eq (.var 3) (.str [110, 111, 116])) (.cons (.ret (.not1 (.call .law_true (.cons (.var 0) (.cons (.ix (.var 1) (.int 1)) (.cons (.var 2) .nil)))))) .nil) .nil) (.cons (.iff (.or2 (.cmp .eq (.var 3) (.str [97, 110, 100])) (.cmp .eq (.var 3) (.str [111, 114]))) (.cons (.for_ (.one 5) (.val (.ix (.var 1) (.int 1))) (.cons (.iff (.cmp .eq (.call .law_true (.cons (.var 0) (.cons (.var 5) (.cons (.var 2) .nil)))) (.cmp .eq (.var 3) (.str [111, 114]))) (.cons (.ret (.cmp .eq (.var 3) (.str [111, 114]))) .nil) .nil) .nil)) (.cons (.ret (.cmp .eq (.var 3) (.str [97, 110, 100]))) .nil)) .nil) (.cons (.ret (.call .law_enough (.cons (.var 0) (.cons (.var 1) (.cons (.var 2) .nil))))) .nil)))))))
def n_law_true : List PySem.Str := ["_law_world_here", "_law_saying", "_law_places", "_law_head", "_law_pairs_here", "_law_part", "_law_name", "_law_points"]
/- _law_plain: _law_saying _law_part -/
def b_law_plain : MSs := (.cons (.iff (.cmp .eq (.ix (.var 0) (.int 0)) (.str [108, 101, 97, 115, 116])) (.cons (.ret (.tup (.cons (.str [115, 111, 109, 101]) (.cons (.ix (.var 0) (.int 2)) (.cons (.call .law_plain (.cons (.ix (.var 0) (.int 3)) .nil)) .nil))))) .nil) .nil) (.cons (.iff (.cmp .eq (.ix (.var 0) (.int 0)) (.str [110, 111, 116])) (.cons (.ret (.tup (.cons (.str [110, 111, 116]) (.cons (.call .law_plain (.cons (.ix (.var 0) (.int 1)) .nil)) .nil)))) .nil) .nil) (.cons (.iff (.or2 (.cmp .eq (.ix (.var 0) (.int 0)) (.str [115, 111, 109, 101])) (.cmp .eq (.ix (.var 0) (.int 0)) (.str [101, 118, 101, 114, 121]))) (.cons (.ret (.tup (.cons (.ix (.var 0) (.int 0)) (.cons (.ix (.var 0) (.int 1)) (.cons (.call .law_plain (.cons (.ix (.var 0) (.int 2)) .nil)) .nil))))) .nil) .nil) (.cons (.iff (.or2 (.cmp .eq (.ix (.var 0) (.int 0)) (.str [97, 110, 100])) (.cmp .eq (.ix (.var 0) (.int 0)) (.str [111, 114]))) (.cons (.ret (.tup (.cons (.ix (.var 0) (.int 0)) (.cons (.b1 .tuple1 (.comp false (.call .law_plain (.cons (.var 1) .nil)) (.one 1) (.val (.ix (.var 0) (.int 1))) (.bl true))) .nil)))) .nil) .nil) (.cons (.ret (.var 0)) .nil)))))
def n_law_plain : List PySem.Str := ["_law_saying", "_law_part"]
/- _law_closed: _law_saying _law_number _law_letter -/
def b_law_closed : MSs := (.cons (.for_ (.one 2) (.val (.call .free_of (.cons (.var 0) .nil))) (.cons (.set 0 (.tup (.cons (.ix (.lst (.cons (.str [115, 111, 109, 101]) (.cons (.str [101, 118, 101, 114, 121]) .nil))) (.bin .mod (.var 1) (.int 2))) (.cons (.var 2) (.cons (.var 0) .nil))))) (.cons (.set 1 (.bin .add (.bin .fdiv (.var 1) (.int 2)) (.int 3))) .nil))) (.cons (.ret (.var 0)) .nil))
def n_law_closed : List PySem.Str := ["_law_saying", "_law_number", "_law_letter"]
/- _law_sum: _law_one _law_other _law_far _law_marks _law_k _law_arrows _law_point _law_a _law_b -/
def b_law_sum : MSs := (.cons (.set 2 (.ix (.var 0) (.int 0))) (.cons (.setOwn 3 (.lst .nil)) (.cons (.for_ (.one 4) (.r1 (.b1 .len1 (.ix (.var 0) (.int 1)))) (.cons (.app 3 (.tup (.cons (.ix (.ix (.ix (.var 0) (.int 1)) (.var 4)) (.int 0)) (.cons (.bin .add (.ix (.ix (.ix (.var 0) (.int 1)) (.var 4)) (.int 1)) (.b1 .tuple1 (.comp false (.bin .add (.var 6) (.var 2)) (.one 6) (.val (.ix (.ix (.ix (.var 1) (.int 1)) (.var 4)) (.int 1))) (.bl true)))) .nil)))) .nil)) (.cons (.setOwn 5 (.lst .nil)) (.cons (.for_ (.one 4) (.r1 (.b1 .len1 (.ix (.var 0) (.int 2)))) (.cons (.app 5 (.tup (.cons (.ix (.ix (.ix (.var 0) (.int 2)) (.var 4)) (.int 0)) (.cons (.bin .add (.ix (.ix (.ix (.var 0) (.int 2)) (.var 4)) (.int 1)) (.b1 .tuple1 (.comp false (.tup (.cons (.bin .add (.var 7) (.var 2)) (.cons (.bin .add (.var 8) (.var 2)) .nil))) (.many [7, 8]) (.val (.ix (.ix (.ix (.var 1) (.int 2)) (.var 4)) (.int 1))) (.bl true)))) .nil)))) .nil)) (.cons (.ret (.tup (.cons (.bin .add (.var 2) (.ix (.var 1) (.int 0))) (.cons (.b1 .tuple1 (.var 3)) (.cons (.b1 .tuple1 (.var 5)) .nil))))) .nil))))))
def n_law_sum : List PySem.Str := ["_law_one", "_law_other", "_law_far", "_law_marks", "_law_k", "_law_arrows", "_law_point", "_law_a", "_law_b"]
/- _law_of_tongue: _law_world_here _law_like _law_marks _law_k _law_arrows _law_some_here _law_name _law_points _law_pairs_here -/
def b_law_of_tongue : MSs := (.cons (.setOwn 2 (.lst .nil)) (.cons (.for_ (.one 3) (.r1 (.b1 .len1 (.ix (.var 1) (.int 1)))) (.cons (.setLc 5 (.comp false (.var 7) (.many [6, 7]) (.val (.ix (.var 0) (.int 1))) (.bl true))) (.cons (.app 2 (.tup (.cons (.ix (.ix (.ix (.var 1) (.int 1)) (.var 3)) (.int 0)) (.cons (.ix (.bin .add (.var 5) (.lst (.cons (.tup .nil) (.cons (.tup .nil) (.cons (.tup .nil) .nil))))) (.var 3)) .nil)))) .nil))) (.cons (.setOwn 4 (.lst .nil)) (.cons (.for_ (.one 3) (.r1 (.b1 .len1 (.ix (.var 1) (.int 2)))) (.cons (.setLc 5 (.comp false (.var 8) (.many [6, 8]) (.val (.ix (.var 0) (.int 2))) (.bl true))) (.cons (.app 4 (.tup (.cons (.ix (.ix (.ix (.var 1) (.int 2)) (.var 3)) (.int 0)) (.cons (.ix (.bin .add (.var 5) (.lst (.cons (.tup .nil) (.cons (.tup .nil) (.cons (.tup .nil) .nil))))) (.var 3)) .nil)))) .nil))) (.cons (.ret (.tup (.cons (.ix (.var 0) (.int 0)) (.cons (.b1 .tuple1 (.var 2)) (.cons (.b1 .tuple1 (.var 4)) .nil))))) .nil)))))
def n_law_of_tongue : List PySem.Str := ["_law_world_here", "_law_like", "_law_marks", "_law_k", "_law_arrows", "_law_some_here", "_law_name", "_law_points", "_law_pairs_here"]
/- _law_alike: _law_desk _law_one _law_other _law_depth -/
def b_law_alike : MSs := (.cons (.ret (.cmp .eq (.meth .desk_say (.var 0) (.cons (.bin .add (.bin .add (.bin .add (.bin .add (.bin .add (.str [97, 108, 105, 107, 101, 32]) (.var 1)) (.str [32])) (.var 2)) (.str [32])) (.b1 .str1 (.var 3))) .nil)) (.str [121, 101, 115]))) .nil)
def n_law_alike : List PySem.Str := ["_law_desk", "_law_one", "_law_other", "_law_depth"]
/- _law_about: _law_desk _law_saying _law_sums _law_both _law_text_here _law_here _law_there -/
def b_law_about : MSs := (.cons (.iff (.cmp .gt (.call .depth_of (.cons (.var 1) .nil)) (.int 4)) (.cons (.ret (.bl true)) .nil) .nil) (.cons (.set 3 (.and2 (.call .law_alike (.cons (.var 0) (.cons (.str [102, 97]) (.cons (.str [102, 98]) (.cons (.call .depth_of (.cons (.var 1) .nil)) .nil))))) (.call .law_alike (.cons (.var 0) (.cons (.str [103, 97]) (.cons (.str [103, 98]) (.cons (.call .depth_of (.cons (.var 1) .nil)) .nil))))))) (.cons (.set 4 (.call .show_saying (.cons (.var 1) .nil))) (.cons (.set 5 (.call .law_true (.cons (.ix (.var 2) (.int 0)) (.cons (.var 1) (.cons .dnew .nil))))) (.cons (.set 6 (.call .law_true (.cons (.ix (.var 2) (.int 1)) (.cons (.var 1) (.cons .dnew .nil))))) (.cons (.iff (.or2 (.cmp .ne (.meth .desk_say (.var 0) (.cons (.bin .add (.str [115, 97, 121, 32, 111, 110, 101, 32]) (.var 4)) .nil)) (.ix (.lst (.cons (.str [110, 111]) (.cons (.str [121, 101, 115]) .nil))) (.b1 .int1 (.var 5)))) (.and2 (.var 3) (.cmp .ne (.var 5) (.var 6)))) (.cons (.ret (.bl false)) .nil) .nil) (.cons (.iff (.and2 (.var 3) (.and2 (.cmp .le (.b2 .max2 (.ix (.ix (.var 2) (.int 0)) (.int 0)) (.ix (.ix (.var 2) (.int 1)) (.int 0))) (.int 4)) (.not1 (.call .law_alike (.cons (.var 0) (.cons (.str [111, 110, 101]) (.cons (.str [116, 119, 111]) (.cons (.call .depth_of (.cons (.var 1) .nil)) .nil)))))))) (.cons (.ret (.bl false)) .nil) .nil) (.cons (.ret (.cmp .eq (.meth .desk_say (.var 0) (.cons (.bin .add (.str [115, 97, 121, 32, 116, 119, 111, 32]) (.var 4)) .nil)) (.ix (.lst (.cons (.str [110, 111]) (.cons (.str [121, 101, 115]) .nil))) (.b1 .int1 (.var 6))))) .nil))))))))
def n_law_about : List PySem.Str := ["_law_desk", "_law_saying", "_law_sums", "_law_both", "_law_text_here", "_law_here", "_law_there"]
/- law: _law_script _law_left _law_right _law_desk _law_sums _law_tongue_here _law_k _law_name _law_world_here _law_letters_here _law_saying _law_part -/
def b_law0 : MSs := (.cons (.set 1 (.call .law_two (.cons (.var 0) (.cons (.int 1) (.cons (.int 3) .nil))))) (.cons (.setLc 2 (.comp false (.call .law_of_tongue (.cons (.var 8) (.cons (.ix (.var 1) (.int 0)) .nil))) (.one 8) (.val (.call .law_two (.cons (.var 0) (.cons (.int 20) (.cons (.int 3) .nil))))) (.bl true))) .nil))
def b_law1 : MSs := (.cons (.for_ (.many [7, 8]) (.val (.lst (.cons (.tup (.cons (.str [102, 97]) (.cons (.ix (.var 1) (.int 0)) .nil))) (.cons (.tup (.cons (.str [102, 98]) (.cons (.ix (.var 1) (.int 1)) .nil))) (.cons (.tup (.cons (.str [103, 97]) (.cons (.ix (.var 2) (.int 0)) .nil))) (.cons (.tup (.cons (.str [103, 98]) (.cons (.ix (.var 2) (.int 1)) .nil))) .nil)))))) (.cons (.iff (.cmp .ne (.meth .desk_say (.var 3) (.cons (.bin .add (.bin .add (.bin .add (.str [119, 111, 114, 108, 100, 32]) (.var 7)) (.str [32])) (.call .law_text (.cons (.var 8) .nil))) .nil)) (.str [111, 107])) (.cons (.ret (.bl false)) .nil) .nil) .nil)) (.cons (.iff (.or2 (.cmp .ne (.meth .desk_say (.var 3) (.cons (.str [98, 101, 115, 105, 100, 101, 32, 111, 110, 101, 32, 102, 97, 32, 103, 97]) .nil)) (.str [111, 107])) (.cmp .ne (.meth .desk_say (.var 3) (.cons (.str [98, 101, 115, 105, 100, 101, 32, 116, 119, 111, 32, 102, 98, 32, 103, 98]) .nil)) (.str [111, 107]))) (.cons (.ret (.bl false)) .nil) .nil) (.cons (.set 4 (.lst (.cons (.call .law_sum (.cons (.ix (.var 1) (.int 0)) (.cons (.ix (.var 2) (.int 0)) .nil))) (.cons (.call .law_sum (.cons (.ix (.var 1) (.int 1)) (.cons (.ix (.var 2) (.int 1)) .nil))) .nil)))) (.cons (.iff (.or2 (.cmp .ne (.meth .desk_say (.var 3) (.cons (.str [115, 104, 111, 119, 32, 111, 110, 101]) .nil)) (.call .law_text (.cons (.ix (.var 4) (.int 0)) .nil))) (.cmp .ne (.meth .desk_say (.var 3) (.cons (.str [115, 104, 111, 119, 32, 116, 119, 111]) .nil)) (.call .law_text (.cons (.ix (.var 4) (.int 1)) .nil)))) (.cons (.ret (.bl false)) .nil) .nil) (.cons (.set 5 (.tup (.cons (.b1 .tuple1 (.comp false (.ix (.var 11) (.int 0)) (.one 11) (.val (.ix (.ix (.var 1) (.int 0)) (.int 1))) (.bl true))) (.cons (.b1 .tuple1 (.comp false (.ix (.var 11) (.int 0)) (.one 11) (.val (.ix (.ix (.var 1) (.int 0)) (.int 2))) (.bl true))) .nil)))) (.cons (.for_ (.one 6) (.r3 (.int 40) (.b2 .max2 (.int 41) (.b2 .min2 (.b1 .len1 (.var 0)) (.int 62))) (.int 7)) (.cons (.set 9 (.call .law_letters (.cons (.bin .mod (.call .law_cell (.cons (.var 0) (.cons (.var 6) .nil))) (.int 26)) .nil))) (.cons (.set 10 (.call .law_plain (.cons (.call .law_grown (.cons (.sl (.var 0) (.ok (.var 6)) (.ok (.bin .add (.var 6) (.int 7)))) (.cons (.var 5) (.cons (.var 9) .nil)))) .nil))) (.cons (.iff (.not1 (.call .law_about (.cons (.var 3) (.cons (.call .law_closed (.cons (.var 10) (.cons (.bin .fdiv (.call .law_cell (.cons (.var 0) (.cons (.var 6) .nil))) (.int 128)) .nil))) (.cons (.var 4) .nil))))) (.cons (.ret (.bl false)) .nil) .nil) .nil)))) (.cons (.ret (.bl true)) .nil)))))))
def b_law : MSs := .cons .never .nil
-- desk's slot 3, the cut at 2
def n_law : List PySem.Str := ["_law_script", "_law_left", "_law_right", "_law_desk", "_law_sums", "_law_tongue_here", "_law_k", "_law_name", "_law_world_here", "_law_letters_here", "_law_saying", "_law_part"]
/- Desk.__init__: self -/
def b_desk_init : MSs := (.cons (.never) .nil)
def n_desk_init : List PySem.Str := ["self"]
/- Desk.world_of: self name -/
def b_desk_world_of : MSs := (.cons (.iff (.shNot (.var 1)) (.cons (.never) .nil) .nil) (.cons (.ret (.shGet (.var 1))) .nil))
def n_desk_world_of : List PySem.Str := ["self", "name"]
/- Desk.say: self row words some sign word -/
def b_desk_say : MSs := (.cons (.iff (.or2 (.not1 (.isi (.var 1) .tstr)) (.not1 (.call .fits_form (.cons (.split (.var 1) (.str [32])) .nil)))) (.cons (.never) .nil) .nil) (.cons (.set 2 (.split (.var 1) (.str [32]))) (.cons (.setOwn 3 (.lst .nil)) (.cons (.for_ (.many [4, 5]) (.zip (.fix (.ix (.var 2) (.int 0))) (.sl (.var 2) (.ok (.int 1)) .no)) (.cons (.iff (.cmp .eq (.var 4) (.str [87])) (.cons (.app 3 (.meth .desk_world_of (.var 0) (.cons (.var 5) .nil))) .nil) .nil) .nil)) (.cons (.iff (.cmp .eq (.ix (.var 2) (.int 0)) (.str [119, 111, 114, 108, 100])) (.cons (.shPut (.ix (.var 2) (.int 1)) (.call .read_world (.cons (.join (.str [32]) (.sl (.var 2) (.ok (.int 2)) .no)) .nil))) (.cons (.ret (.str [111, 107])) .nil)) .nil) (.cons (.iff (.cmp .eq (.ix (.var 2) (.int 0)) (.str [98, 101, 115, 105, 100, 101])) (.cons (.shPut (.ix (.var 2) (.int 1)) (.call .beside (.cons (.ix (.var 3) (.int 0)) (.cons (.ix (.var 3) (.int 1)) .nil)))) (.cons (.ret (.str [111, 107])) .nil)) .nil) (.cons (.iff (.cmp .eq (.b1 .len1 (.var 3)) (.int 1)) (.cons (.ret (.meth .desk_about_one (.var 0) (.cons (.var 2) (.cons (.ix (.var 3) (.int 0)) .nil)))) .nil) .nil) (.cons (.ret (.meth .desk_about_two (.var 0) (.cons (.var 2) (.cons (.ix (.var 3) (.int 0)) (.cons (.ix (.var 3) (.int 1)) .nil))))) .nil))))))))
def n_desk_say : List PySem.Str := ["self", "row", "words", "some", "sign", "word"]
/- Desk.about_one: self words world points -/
def b_desk_about_one : MSs := (.cons (.iff (.cmp .eq (.ix (.var 1) (.int 0)) (.str [115, 104, 111, 119])) (.cons (.ret (.call .show_world (.cons (.var 2) .nil))) .nil) .nil) (.cons (.iff (.cmp .eq (.ix (.var 1) (.int 0)) (.str [111, 114, 98, 105, 116, 115])) (.cons (.ret (.join (.str [32]) (.comp false (.never) (.one 3) (.val (.never)) (.bl true)))) .nil) .nil) (.cons (.iff (.call .holds (.cons (.var 2) (.cons (.call .read_saying (.cons (.join (.str [32]) (.sl (.var 1) (.ok (.int 2)) .no)) .nil)) .nil))) (.cons (.ret (.str [121, 101, 115])) .nil) .nil) (.cons (.ret (.str [110, 111])) .nil))))
def n_desk_about_one : List PySem.Str := ["self", "words", "world", "points"]
/- Desk.about_two: self words one other rounds found order depth r -/
def b_desk_about_two : MSs := (.cons (.ex (.call .check_two (.cons (.var 2) (.cons (.var 3) .nil)))) (.cons (.iff (.cmp .eq (.ix (.var 1) (.int 0)) (.str [112, 97, 114, 116])) (.cons (.ret (.never)) .nil) .nil) (.cons (.iff (.cmp .eq (.ix (.var 1) (.int 0)) (.str [99, 111, 117, 110, 116])) (.cons (.ret (.never)) .nil) .nil) (.cons (.iff (.cmp .eq (.ix (.var 1) (.int 0)) (.str [116, 117, 114, 110])) (.cons (.set 6 (.never)) (.cons (.iff (.cmp .isN (.var 6) .non) (.cons (.ret (.str [45])) .nil) .nil) (.cons (.ret (.never)) .nil))) .nil) (.cons (.iff (.cmp .eq (.ix (.var 1) (.int 0)) (.str [97, 108, 105, 107, 101])) (.cons (.set 7 (.b1 .int1 (.ix (.var 1) (.int 3)))) (.cons (.ret (.ix (.lst (.cons (.str [110, 111]) (.cons (.str [121, 101, 115]) .nil))) (.b1 .int1 (.cmp .isin (.tup .nil) (.ix (.call .layers (.cons (.var 2) (.cons (.var 3) (.cons (.var 7) .nil)))) (.var 7)))))) .nil)) .nil) (.cons (.set 4 (.never)) (.cons (.iff (.cmp .isin (.tup .nil) (.ix (.var 4) (.neg (.int 1)))) (.cons (.ret (.str [97, 108, 105, 107, 101])) .nil) .nil) (.cons (.setLc 5 (.comp true (.var 8) (.one 8) (.r1 (.b1 .len1 (.var 4))) (.cmp .notin (.tup .nil) (.ix (.var 4) (.var 8))))) (.cons (.ret (.bin .add (.str [110, 111, 32]) (.b1 .str1 (.ix (.var 5) (.int 0))))) .nil)))))))))
def n_desk_about_two : List PySem.Str := ["self", "words", "one", "other", "rounds", "found", "order", "depth", "r"]
def body : Fn → MSs
  | .is_whole => b_is_whole
  | .count_of => b_count_of
  | .is_name => b_is_name
  | .is_point => b_is_point
  | .is_pair => b_is_pair
  | .rises => b_rises
  | .are_named => b_are_named
  | .is_world => b_is_world
  | .tongue_of => b_tongue_of
  | .what_has => b_what_has
  | .bears => b_bears
  | .leads => b_leads
  | .check_tongue => b_check_tongue
  | .check_small => b_check_small
  | .check_two => b_check_two
  | .beside => b_beside
  | .same_marks => b_same_marks
  | .agree => b_agree
  | .joins => b_joins
  | .with_pair => b_with_pair
  | .further => b_further
  | .pairings => b_pairings
  | .is_saved => b_is_saved
  | .is_answered => b_is_answered
  | .next_layer => b_next_layer
  | .layers => b_layers
  | .is_letter => b_is_letter
  | .parts_of => b_parts_of
  | .letters_here => b_letters_here
  | .depth_of => b_depth_of
  | .free_of => b_free_of
  | .strange => b_strange
  | .with_letter => b_with_letter
  | .joined => b_joined
  | .often => b_often
  | .for_each => b_for_each
  | .true_at => b_true_at
  | .holds => b_holds
  | .show_saying => b_show_saying
  | .word_end => b_word_end
  | .past => b_past
  | .letter_at => b_letter_at
  | .read_named => b_read_named
  | .read_many => b_read_many
  | .read_joined => b_read_joined
  | .read_at => b_read_at
  | .read_saying => b_read_saying
  | .show_world => b_show_world
  | .read_point => b_read_point
  | .read_pair => b_read_pair
  | .read_part => b_read_part
  | .read_world => b_read_world
  | .fits_form => b_fits_form
  | .law_cell => b_law_cell
  | .law_names => b_law_names
  | .law_some => b_law_some
  | .law_pairs => b_law_pairs
  | .law_tongue => b_law_tongue
  | .law_world => b_law_world
  | .law_even => b_law_even
  | .law_shaped => b_law_shaped
  | .law_order => b_law_order
  | .law_turned => b_law_turned
  | .law_flipped => b_law_flipped
  | .law_changed => b_law_changed
  | .law_two => b_law_two
  | .law_text => b_law_text
  | .law_letters => b_law_letters
  | .law_leaf => b_law_leaf
  | .law_wrapped => b_law_wrapped
  | .law_joined => b_law_joined
  | .law_grown => b_law_grown
  | .law_enough => b_law_enough
  | .law_true => b_law_true
  | .law_plain => b_law_plain
  | .law_closed => b_law_closed
  | .law_sum => b_law_sum
  | .law_of_tongue => b_law_of_tongue
  | .law_alike => b_law_alike
  | .law_about => b_law_about
  | .law => b_law
  | .desk_init => b_desk_init
  | .desk_world_of => b_desk_world_of
  | .desk_say => b_desk_say
  | .desk_about_one => b_desk_about_one
  | .desk_about_two => b_desk_about_two
def nm : Fn → List PySem.Str
  | .is_whole => n_is_whole
  | .count_of => n_count_of
  | .is_name => n_is_name
  | .is_point => n_is_point
  | .is_pair => n_is_pair
  | .rises => n_rises
  | .are_named => n_are_named
  | .is_world => n_is_world
  | .tongue_of => n_tongue_of
  | .what_has => n_what_has
  | .bears => n_bears
  | .leads => n_leads
  | .check_tongue => n_check_tongue
  | .check_small => n_check_small
  | .check_two => n_check_two
  | .beside => n_beside
  | .same_marks => n_same_marks
  | .agree => n_agree
  | .joins => n_joins
  | .with_pair => n_with_pair
  | .further => n_further
  | .pairings => n_pairings
  | .is_saved => n_is_saved
  | .is_answered => n_is_answered
  | .next_layer => n_next_layer
  | .layers => n_layers
  | .is_letter => n_is_letter
  | .parts_of => n_parts_of
  | .letters_here => n_letters_here
  | .depth_of => n_depth_of
  | .free_of => n_free_of
  | .strange => n_strange
  | .with_letter => n_with_letter
  | .joined => n_joined
  | .often => n_often
  | .for_each => n_for_each
  | .true_at => n_true_at
  | .holds => n_holds
  | .show_saying => n_show_saying
  | .word_end => n_word_end
  | .past => n_past
  | .letter_at => n_letter_at
  | .read_named => n_read_named
  | .read_many => n_read_many
  | .read_joined => n_read_joined
  | .read_at => n_read_at
  | .read_saying => n_read_saying
  | .show_world => n_show_world
  | .read_point => n_read_point
  | .read_pair => n_read_pair
  | .read_part => n_read_part
  | .read_world => n_read_world
  | .fits_form => n_fits_form
  | .law_cell => n_law_cell
  | .law_names => n_law_names
  | .law_some => n_law_some
  | .law_pairs => n_law_pairs
  | .law_tongue => n_law_tongue
  | .law_world => n_law_world
  | .law_even => n_law_even
  | .law_shaped => n_law_shaped
  | .law_order => n_law_order
  | .law_turned => n_law_turned
  | .law_flipped => n_law_flipped
  | .law_changed => n_law_changed
  | .law_two => n_law_two
  | .law_text => n_law_text
  | .law_letters => n_law_letters
  | .law_leaf => n_law_leaf
  | .law_wrapped => n_law_wrapped
  | .law_joined => n_law_joined
  | .law_grown => n_law_grown
  | .law_enough => n_law_enough
  | .law_true => n_law_true
  | .law_plain => n_law_plain
  | .law_closed => n_law_closed
  | .law_sum => n_law_sum
  | .law_of_tongue => n_law_of_tongue
  | .law_alike => n_law_alike
  | .law_about => n_law_about
  | .law => n_law
  | .desk_init => n_desk_init
  | .desk_world_of => n_desk_world_of
  | .desk_say => n_desk_say
  | .desk_about_one => n_desk_about_one
  | .desk_about_two => n_desk_about_two
def nsl : Fn → Nat
  | .is_whole => 1
  | .count_of => 3
  | .is_name => 2
  | .is_point => 2
  | .is_pair => 2
  | .rises => 2
  | .are_named => 5
  | .is_world => 4
  | .tongue_of => 2
  | .what_has => 3
  | .bears => 3
  | .leads => 4
  | .check_tongue => 2
  | .check_small => 1
  | .check_two => 2
  | .beside => 10
  | .same_marks => 5
  | .agree => 10
  | .joins => 5
  | .with_pair => 2
  | .further => 6
  | .pairings => 8
  | .is_saved => 4
  | .is_answered => 10
  | .next_layer => 5
  | .layers => 5
  | .is_letter => 1
  | .parts_of => 2
  | .letters_here => 2
  | .depth_of => 3
  | .free_of => 4
  | .strange => 4
  | .with_letter => 4
  | .joined => 5
  | .often => 7
  | .for_each => 5
  | .true_at => 4
  | .holds => 8
  | .show_saying => 4
  | .word_end => 2
  | .past => 3
  | .letter_at => 2
  | .read_named => 5
  | .read_many => 6
  | .read_joined => 6
  | .read_at => 6
  | .read_saying => 3
  | .show_world => 8
  | .read_point => 1
  | .read_pair => 4
  | .read_part => 5
  | .read_world => 8
  | .fits_form => 4
  | .law_cell => 2
  | .law_names => 12
  | .law_some => 4
  | .law_pairs => 5
  | .law_tongue => 4
  | .law_world => 8
  | .law_even => 9
  | .law_shaped => 13
  | .law_order => 6
  | .law_turned => 10
  | .law_flipped => 3
  | .law_changed => 6
  | .law_two => 10
  | .law_text => 8
  | .law_letters => 2
  | .law_leaf => 5
  | .law_wrapped => 7
  | .law_joined => 6
  | .law_grown => 9
  | .law_enough => 6
  | .law_true => 8
  | .law_plain => 2
  | .law_closed => 3
  | .law_sum => 9
  | .law_of_tongue => 9
  | .law_alike => 4
  | .law_about => 7
  | .law => 12
  | .desk_init => 1
  | .desk_world_of => 2
  | .desk_say => 6
  | .desk_about_one => 4
  | .desk_about_two => 9
end Pk
end
section
-- PkCall
set_option linter.all false
/-! A def's call, so many deep. -/
namespace Pk
open PySem
def startE (f : Fn) (ds : List D) : En := ds.map Sl.p ++ List.replicate (nsl f - np f) .un
def outD : Option Out → Option (D × Sh)
  | some (.rt d s) => some (d, s)
  | some (.nx _ s) => some (.non, s)
  | none => none
def callN : Nat → Cl
  | 0, _, _, _ => none
  | k + 1, f, ds, s => if ds.length = np f then outD (exSs (callN k) (body f) (startE f ds) s) else none
end Pk
end
section
-- PkRep
set_option linter.all false
set_option maxRecDepth 100000
/-! How data stand in the abstract heap. -/
namespace Pk
open PySem PySem.Spec PyProof.Rows L2

structure Gx where
  P : Program
  w : World
  K : PySem.W.Frag
  mg : PySem.Str → Option Value
  fa : Fn → Addr
  C : Addr
  dk : Option (Addr × Addr × Addr)

/-- the heap without what T holds -/
noncomputable def wo (H : Hp) (T : Addr → Prop) : Hp := fun a => open Classical in if T a then none else H a
theorem wo_some {H : Hp} {T : Addr → Prop} {a : Addr} {o : HO} : wo H T a = some o ↔ ¬ T a ∧ H a = some o := by
  unfold wo
  by_cases h : T a
  · simp [h]
  · simp [h]
theorem wo_same (H : Hp) (T : Addr → Prop) : Same (wo H T) H := fun a o h => (wo_some.mp h).2
theorem wo_less {H : Hp} {T T' : Addr → Prop} (h : ∀ a, T' a → T a) : Same (wo H T) (wo H T') := fun a o e => wo_some.mpr ⟨fun z => (wo_some.mp e).1 (h a z), (wo_some.mp e).2⟩
theorem Same.sqt {K : PySem.W.Frag} {H H' : Hp} {a : Addr} {xs : List V} (e : Same H H') (h : SqT K H a xs) : SqT K H' a xs := by
  rcases h with (h | ⟨o, h⟩) | h
  · exact .inl (.inl (e _ _ h))
  · exact .inl (.inr ⟨o, e _ _ h⟩)
  · exact .inr h

/-! ### dicts -/
abbrev sK (l : List Nat) : Key := Sum.inr ⟨l.toArray⟩
def dicV (l : List (List Nat × Int)) : List (Key × V) := l.map fun p => (sK p.1, V.int p.2)
/-- a pair of ints as a key -/
def nkP (p : Int × Int) : NestedKey := .tup [.num p.1, .num p.2]
def nkPs (k : List (Int × Int)) : NestedKey := .tup (k.map nkP)
/-- the dict at a: each of xs (its key, where the key stands) with True -/
def LevAt (P : Program) (w : World) (a : Addr) (xs : List (List (Int × Int) × Addr)) (h : Heap) : Prop :=
  (a == sysModules) = false ∧ xs.length ≤ sizeLine ∧ (xs.map (·.1)).Nodup ∧
    ∃ o es ep, h.get? a = some o ∧ o.ExactDict ∧ o.data = .dict es ep ∧ es.toList = xs.map fun x => entryOfKey (nestedKind P w) (nkPs x.1, x.2, Value.bool true)
def levO (P : Program) (w : World) (a : Addr) (xs : List (List (Int × Int) × Addr)) : HO := .ext (LevAt P w a xs)
section
variable (G : Gx) (H : Hp)
def PrAt (v : V) (p : Int × Int) : Prop := ∃ a, v = .ref a ∧ SqT G.K H a [.int p.1, .int p.2]
def PrL : List V → List (Int × Int) → Prop
  | [], k => k = []
  | v :: vs, k => ∃ p r, k = p :: r ∧ PrAt G H v p ∧ PrL vs r
def PrsAt (b : Addr) (k : List (Int × Int)) : Prop := ∃ vs, SqT G.K H b vs ∧ PrL G H vs k
mutual
def Rep : D → V → Prop
  | .non, v => v = .non
  | .bl b, v => v = .bl b
  | .int i, v => v = .int i
  | .str l, v => v = .str ⟨l.toArray⟩
  | .tup l, v => ∃ a vs, v = .ref a ∧ SqT G.K H a vs ∧ RepL l vs
  | .lst l, v => ∃ a vs, v = .ref a ∧ H a = some (.lst vs) ∧ RepL l vs
  | .scr l, v => ∃ a, v = .ref a ∧ SqL G.K H a (l.map V.int)
  | .dic l, v => ∃ a, v = .ref a ∧ H a = some (.dK (dicV l))
  | .lev ks, v => ∃ a xs, v = .ref a ∧ H a = some (levO G.P G.w a xs) ∧ ks = xs.map (·.1) ∧ ∀ p ∈ xs, PrsAt G H p.2 p.1
  | .fn f, v => v = .ref (G.fa f)
  | .desk, v => ∃ x, G.dk = some x ∧ v = .ref x.1
def RepL : List D → List V → Prop
  | [], vs => vs = []
  | d :: r, vs => ∃ v ws, vs = v :: ws ∧ Rep d v ∧ RepL r ws
end
end
section
variable {G : Gx} {H H' : Hp}
theorem PrAt.mono (e : Same H H') {v : V} {p : Int × Int} (h : PrAt G H v p) : PrAt G H' v p := let ⟨a, h1, h2⟩ := h; ⟨a, h1, Same.sqt e h2⟩
theorem PrL.mono (e : Same H H') : ∀ {vs : List V} {k : List (Int × Int)}, PrL G H vs k → PrL G H' vs k
  | [], _, h => h
  | _ :: _, _, h => let ⟨p, r, h1, h2, h3⟩ := h; ⟨p, r, h1, h2.mono e, PrL.mono e h3⟩
theorem PrsAt.mono (e : Same H H') {b : Addr} {k : List (Int × Int)} (h : PrsAt G H b k) : PrsAt G H' b k := let ⟨vs, h1, h2⟩ := h; ⟨vs, Same.sqt e h1, h2.mono e⟩
mutual
theorem Rep.mono (e : Same H H') : ∀ (d : D) {v : V}, Rep G H d v → Rep G H' d v
  | .non, _, h => h
  | .bl _, _, h => h
  | .int _, _, h => h
  | .str _, _, h => h
  | .tup l, _, h => by
    unfold Rep at h ⊢
    obtain ⟨a, vs, h1, h2, h3⟩ := h
    exact ⟨a, vs, h1, Same.sqt e h2, RepL.mono e l h3⟩
  | .lst l, _, h => by
    unfold Rep at h ⊢
    obtain ⟨a, vs, h1, h2, h3⟩ := h
    exact ⟨a, vs, h1, e _ _ h2, RepL.mono e l h3⟩
  | .scr l, _, h => by
    unfold Rep at h ⊢
    obtain ⟨a, h1, h2⟩ := h
    exact ⟨a, h1, e.seq h2⟩
  | .dic l, _, h => by
    unfold Rep at h ⊢
    obtain ⟨a, h1, h2⟩ := h
    exact ⟨a, h1, e _ _ h2⟩
  | .lev ks, _, h => by
    unfold Rep at h ⊢
    obtain ⟨a, xs, h1, h2, h3, h4⟩ := h
    exact ⟨a, xs, h1, e _ _ h2, h3, fun p hp => (h4 p hp).mono e⟩
  | .fn _, _, h => h
  | .desk, _, h => h
theorem RepL.mono (e : Same H H') : ∀ (l : List D) {vs : List V}, RepL G H l vs → RepL G H' l vs
  | [], _, h => h
  | d :: r, _, h => by
    unfold RepL at h ⊢
    obtain ⟨v, ws, h1, h2, h3⟩ := h
    exact ⟨v, ws, h1, Rep.mono e d h2, RepL.mono e r h3⟩
end
theorem RepL.len : ∀ {l : List D} {vs : List V}, RepL G H l vs → l.length = vs.length
  | [], _, h => by
    unfold RepL at h
    rw [h]
    rfl
  | d :: r, _, h => by
    unfold RepL at h
    obtain ⟨v, ws, rfl, _, h3⟩ := h
    simp [RepL.len h3]
theorem RepL.get : ∀ {l : List D} {vs : List V} {i : Nat} {d : D}, RepL G H l vs → l[i]? = some d → ∃ v, vs[i]? = some v ∧ Rep G H d v
  | [], _, _, _, _, e => by simp at e
  | d :: r, _, 0, _, h, e => by
    unfold RepL at h
    obtain ⟨v, ws, rfl, h2, _⟩ := h
    simp at e
    subst e
    exact ⟨v, rfl, h2⟩
  | d :: r, _, i + 1, x, h, e => by
    unfold RepL at h
    obtain ⟨v, ws, rfl, _, h3⟩ := h
    obtain ⟨u, e1, e2⟩ := RepL.get (i := i) (d := x) h3 (by simpa using e)
    exact ⟨u, by simpa using e1, e2⟩
theorem RepL.getV : ∀ {l : List D} {vs : List V} {i : Nat} {v : V}, RepL G H l vs → vs[i]? = some v → ∃ d, l[i]? = some d ∧ Rep G H d v
  | [], _, _, _, h, e => by
    unfold RepL at h
    subst h
    simp at e
  | d :: r, _, 0, _, h, e => by
    unfold RepL at h
    obtain ⟨v, ws, rfl, h2, _⟩ := h
    simp at e
    subst e
    exact ⟨d, rfl, h2⟩
  | d :: r, _, i + 1, x, h, e => by
    unfold RepL at h
    obtain ⟨v, ws, rfl, _, h3⟩ := h
    obtain ⟨u, e1, e2⟩ := RepL.getV (i := i) (v := x) h3 (by simpa using e)
    exact ⟨u, by simpa using e1, e2⟩
theorem RepL.nil : RepL G H [] [] := by
  unfold RepL
  rfl
theorem RepL.cons {d : D} {v : V} {l : List D} {vs : List V} (h : Rep G H d v) (t : RepL G H l vs) : RepL G H (d :: l) (v :: vs) := by
  unfold RepL
  exact ⟨v, vs, rfl, h, t⟩
theorem RepL.append : ∀ {l m : List D} {vs ws : List V}, RepL G H l vs → RepL G H m ws → RepL G H (l ++ m) (vs ++ ws)
  | [], _, _, _, h, t => by
    unfold RepL at h
    subst h
    exact t
  | d :: r, _, _, _, h, t => by
    unfold RepL at h
    obtain ⟨v, us, rfl, h2, h3⟩ := h
    exact RepL.cons h2 (RepL.append h3 t)
theorem RepL.take : ∀ {l : List D} {vs : List V} (n : Nat), RepL G H l vs → RepL G H (l.take n) (vs.take n)
  | _, _, 0, _ => RepL.nil
  | [], _, _ + 1, h => by
    unfold RepL at h
    subst h
    exact RepL.nil
  | d :: r, _, n + 1, h => by
    unfold RepL at h
    obtain ⟨v, us, rfl, h2, h3⟩ := h
    exact RepL.cons h2 (RepL.take n h3)
theorem RepL.drop : ∀ {l : List D} {vs : List V} (n : Nat), RepL G H l vs → RepL G H (l.drop n) (vs.drop n)
  | _, _, 0, h => h
  | [], _, _ + 1, h => by
    unfold RepL at h
    subst h
    exact RepL.nil
  | d :: r, _, n + 1, h => by
    unfold RepL at h
    obtain ⟨v, us, rfl, h2, h3⟩ := h
    exact RepL.drop n h3
theorem RepL.set : ∀ {l : List D} {vs : List V} {d : D} {v : V} (n : Nat), RepL G H l vs → Rep G H d v → RepL G H (l.set n d) (vs.set n v)
  | [], _, _, _, _, h, _ => by
    unfold RepL at h
    subst h
    exact RepL.nil
  | x :: r, _, _, _, 0, h, t => by
    unfold RepL at h
    obtain ⟨v, us, rfl, h2, h3⟩ := h
    exact RepL.cons t h3
  | x :: r, _, _, _, n + 1, h, t => by
    unfold RepL at h
    obtain ⟨v, us, rfl, h2, h3⟩ := h
    exact RepL.cons h2 (RepL.set n h3 t)
theorem RepL.cut {l : List D} {vs : List V} (h : RepL G H l vs) (lo hi : Option Int) : RepL G H (cutL l lo hi) (cutV vs lo hi) := by
  unfold cutL cutV
  rw [← h.len]
  exact (h.drop _).take _
theorem RepL.ints : ∀ (ns : List Int), RepL G H (ns.map D.int) (ns.map V.int)
  | [] => RepL.nil
  | n :: r => RepL.cons (by unfold Rep; rfl) (RepL.ints r)
theorem RepL.strs : ∀ (ns : List (List Nat)), RepL G H (ns.map D.str) (ns.map fun l => V.str ⟨l.toArray⟩)
  | [] => RepL.nil
  | n :: r => RepL.cons (by unfold Rep; rfl) (RepL.strs r)
theorem RepL.asInts : ∀ {l : List D} {vs : List V} {ns : List Int}, RepL G H l vs → asInts l = some ns → vs = ns.map V.int ∧ l = ns.map D.int
  | [], _, ns, h, e => by
    unfold RepL at h
    subst h
    unfold Pk.asInts at e
    cases e
    exact ⟨rfl, rfl⟩
  | d :: r, _, ns, h, e => by
    unfold RepL at h
    obtain ⟨v, us, rfl, h2, h3⟩ := h
    cases d with
    | int i =>
      unfold Pk.asInts at e
      obtain ⟨ms, e1, rfl⟩ := Option.map_eq_some_iff.mp e
      obtain ⟨rfl, rfl⟩ := RepL.asInts h3 e1
      unfold Rep at h2
      subst h2
      exact ⟨rfl, rfl⟩
    | _ => simp [Pk.asInts] at e
theorem RepL.asStrs : ∀ {l : List D} {vs : List V} {ns : List (List Nat)}, RepL G H l vs → asStrs l = some ns → vs = (ns.map fun x => (⟨x.toArray⟩ : PySem.Str)).map V.str ∧ l = ns.map D.str
  | [], _, ns, h, e => by
    unfold RepL at h
    subst h
    unfold Pk.asStrs at e
    cases e
    exact ⟨rfl, rfl⟩
  | d :: r, _, ns, h, e => by
    unfold RepL at h
    obtain ⟨v, us, rfl, h2, h3⟩ := h
    cases d with
    | str i =>
      unfold Pk.asStrs at e
      obtain ⟨ms, e1, rfl⟩ := Option.map_eq_some_iff.mp e
      obtain ⟨rfl, rfl⟩ := RepL.asStrs h3 e1
      unfold Rep at h2
      subst h2
      exact ⟨rfl, rfl⟩
    | _ => simp [Pk.asStrs] at e
theorem RepL.asBls : ∀ {l : List D} {vs : List V} {ns : List Bool}, RepL G H l vs → asBls l = some ns → vs = ns.map V.bl ∧ l = ns.map D.bl
  | [], _, ns, h, e => by
    unfold RepL at h
    subst h
    unfold Pk.asBls at e
    cases e
    exact ⟨rfl, rfl⟩
  | d :: r, _, ns, h, e => by
    unfold RepL at h
    obtain ⟨v, us, rfl, h2, h3⟩ := h
    cases d with
    | bl i =>
      unfold Pk.asBls at e
      obtain ⟨ms, e1, rfl⟩ := Option.map_eq_some_iff.mp e
      obtain ⟨rfl, rfl⟩ := RepL.asBls h3 e1
      unfold Rep at h2
      subst h2
      exact ⟨rfl, rfl⟩
    | _ => simp [Pk.asBls] at e
theorem asPair_eq {d : D} {p : Int × Int} (h : asPair d = some p) : d = ofPair p := by
  unfold asPair at h
  split at h
  · cases h
    rfl
  · cases h
theorem Rep.pair {p : Int × Int} {v : V} (h : Rep G H (ofPair p) v) : PrAt G H v p := by
  unfold ofPair at h
  unfold Rep at h
  obtain ⟨a, vs, h1, h2, h3⟩ := h
  unfold RepL at h3
  obtain ⟨v1, w1, rfl, e1, h3⟩ := h3
  unfold RepL at h3
  obtain ⟨v2, w2, rfl, e2, h3⟩ := h3
  unfold RepL at h3
  subst h3
  unfold Rep at e1 e2
  subst e1 e2
  exact ⟨a, h1, h2⟩
theorem PrAt.rep {p : Int × Int} {v : V} (h : PrAt G H v p) : Rep G H (ofPair p) v := by
  obtain ⟨a, h1, h2⟩ := h
  unfold ofPair Rep
  exact ⟨a, _, h1, h2, RepL.cons (by unfold Rep; rfl) (RepL.cons (by unfold Rep; rfl) RepL.nil)⟩
theorem RepL.asPrs : ∀ {l : List D} {vs : List V} {ns : List (Int × Int)}, RepL G H l vs → asPrs l = some ns → PrL G H vs ns ∧ l = ns.map ofPair
  | [], _, ns, h, e => by
    unfold RepL at h
    subst h
    unfold Pk.asPrs at e
    cases e
    exact ⟨rfl, rfl⟩
  | d :: r, _, ns, h, e => by
    unfold RepL at h
    obtain ⟨v, us, rfl, h2, h3⟩ := h
    unfold Pk.asPrs at e
    cases e0 : asPair d with
    | none => rw [e0] at e; cases e
    | some p =>
      rw [e0] at e
      obtain ⟨ms, e1, rfl⟩ := Option.map_eq_some_iff.mp e
      obtain ⟨h4, rfl⟩ := RepL.asPrs h3 e1
      have e2 := asPair_eq e0
      subst e2
      exact ⟨⟨p, ms, rfl, h2.pair, h4⟩, rfl⟩
theorem asPairs_asPrs : ∀ {l : List D} {k : List (Int × Int)}, l.mapM asPair = some k → asPrs l = some k
  | [], k, h => by
    simp at h
    subst h
    rfl
  | d :: r, k, h => by
    rw [List.mapM_cons] at h
    unfold asPrs
    cases e : asPair d with
    | none => rw [e] at h; cases h
    | some p =>
      rw [e] at h
      cases e2 : r.mapM asPair with
      | none => rw [e2] at h; cases h
      | some q =>
        rw [e2] at h
        cases h
        show (asPrs r).map (p :: ·) = _
        rw [asPairs_asPrs e2]
        rfl
theorem Rep.pairs {d : D} {v : V} {k : List (Int × Int)} (h : Rep G H d v) (e : asPairs d = some k) : ∃ b, v = .ref b ∧ PrsAt G H b k := by
  unfold asPairs at e
  split at e
  · unfold Rep at h
    obtain ⟨a, vs, h1, h2, h3⟩ := h
    exact ⟨a, h1, vs, h2, (h3.asPrs (asPairs_asPrs e)).1⟩
  · cases e
theorem PrL.rep : ∀ {vs : List V} {k : List (Int × Int)}, PrL G H vs k → RepL G H (k.map ofPair) vs
  | [], _, h => by
    have e : _ = [] := h
    subst e
    exact RepL.nil
  | v :: vs, _, h => by
    obtain ⟨p, r, rfl, h1, h2⟩ := h
    exact RepL.cons h1.rep (PrL.rep h2)
theorem PrL.len : ∀ {vs : List V} {k : List (Int × Int)}, PrL G H vs k → vs.length = k.length
  | [], _, h => by
    have e : _ = [] := h
    subst e
    rfl
  | v :: vs, _, h => by
    obtain ⟨p, r, rfl, h1, h2⟩ := h
    simp [PrL.len h2]
end

/-! ### slots -/
def Ow (ρ : En) (σ : L2.St) (a : Addr) : Prop := ∃ (i : Nat) (d : D), ρ[i]? = some (.o d) ∧ σ[i]? = some (some (.ref a))
abbrev Tw (S : Addr → Prop) (ρ : En) (σ : L2.St) : Addr → Prop := fun a => S a ∨ Ow ρ σ a
def OwnRep (G : Gx) (H Hw : Hp) (a : Addr) : D → Prop
  | .lst l => ∃ vs, H a = some (.lst vs) ∧ RepL G Hw l vs
  | .dic l => H a = some (.dK (dicV l))
  | .lev ks => ∃ xs, H a = some (levO G.P G.w a xs) ∧ ks = xs.map (·.1) ∧ ∀ p ∈ xs, PrsAt G Hw p.2 p.1
  | _ => False
def ShR (G : Gx) (Hw : Hp) : Sh → List (Key × V) → Prop
  | [], kvs => kvs = []
  | (k, d) :: r, kvs => ∃ v q, kvs = (sK k, v) :: q ∧ Rep G Hw d v ∧ ShR G Hw r q
theorem ShR.mono {G : Gx} {H H' : Hp} (e : Same H H') : ∀ {s : Sh} {kvs : List (Key × V)}, ShR G H s kvs → ShR G H' s kvs
  | [], _, h => h
  | (k, d) :: r, _, h => let ⟨v, q, h1, h2, h3⟩ := h; ⟨v, q, h1, Rep.mono e d h2, ShR.mono e h3⟩
def Shf (G : Gx) (S T : Addr → Prop) (H : Hp) (s : Sh) : Prop := match G.dk with
  | none => s = []
  | some (a0, dx, d0) => S d0 ∧ H a0 = some (.ins G.C dx [("shelf", .ref d0)]) ∧ ∃ kvs, H d0 = some (.dK kvs) ∧ ShR G (wo H T) s kvs
/-- what stood stands, but for the shelf -/
def Fr (G : Gx) (H H' : Hp) : Prop := ∀ a o, (∀ x, G.dk = some x → a ≠ x.2.2) → H a = some o → H' a = some o
theorem Fr.refl {G : Gx} {H : Hp} : Fr G H H := fun _ _ _ h => h
theorem Fr.trans {G : Gx} {H H1 H2 : Hp} (a : Fr G H H1) (b : Fr G H1 H2) : Fr G H H2 := fun c o n h => b c o n (a c o n h)
theorem Fr.of {G : Gx} {H H' : Hp} (e : Same H H') : Fr G H H' := fun a o _ h => e a o h
def Dom (T : Addr → Prop) (H : Hp) : Prop := ∀ a, T a → H a ≠ none
structure Env (G : Gx) (S : Addr → Prop) (ρ : En) (σ : L2.St) (H : Hp) : Prop where
  len : σ.length = ρ.length
  pur : ∀ (i : Nat) (d : D), ρ[i]? = some (.p d) → ∃ v, σ[i]? = some (some v) ∧ Rep G (wo H (Tw S ρ σ)) d v
  own : ∀ (i : Nat) (d : D), ρ[i]? = some (.o d) → ∃ a, σ[i]? = some (some (.ref a)) ∧ OwnRep G H (wo H (Tw S ρ σ)) a d
  inj : ∀ (i j : Nat) (d e : D) (a : Addr), ρ[i]? = some (.o d) → ρ[j]? = some (.o e) → σ[i]? = some (some (.ref a)) → σ[j]? = some (some (.ref a)) → i = j
  dis : ∀ a, Ow ρ σ a → ¬ S a
  dom : Dom S H
theorem OwnRep.there {G : Gx} {H Hw : Hp} {a : Addr} {d : D} (h : OwnRep G H Hw a d) : H a ≠ none := by
  cases d with
  | lst l =>
    obtain ⟨vs, e, _⟩ := h
    rw [e]
    exact fun z => by cases z
  | dic l =>
    have e : H a = some (HO.dK (dicV l)) := h
    rw [e]
    exact fun z => by cases z
  | lev ks =>
    obtain ⟨xs, e, _⟩ := h
    rw [e]
    exact fun z => by cases z
  | _ => exact h.elim
theorem Env.domT {G : Gx} {S : Addr → Prop} {ρ : En} {σ : L2.St} {H : Hp} (e : Env G S ρ σ H) : Dom (Tw S ρ σ) H := fun a h => by
  rcases h with h | ⟨i, d, h1, h2⟩
  · exact e.dom a h
  · obtain ⟨b, h3, h4⟩ := e.own i d h1
    rw [h2] at h3
    cases h3
    exact h4.there
/-- an expression's place: slots, the shelf -/
structure Now (G : Gx) (S : Addr → Prop) (ρ : En) (σ : L2.St) (H : Hp) (s : Sh) : Prop where
  env : Env G S ρ σ H
  sh : Shf G S (Tw S ρ σ) H s
theorem Now.wo {G : Gx} {S : Addr → Prop} {ρ : En} {σ : L2.St} {H H' : Hp} {s : Sh} {T : Addr → Prop} (n : Shf G S T H s) (hT : ∀ a, S a → T a) (f : Fr G H H') : Same (Pk.wo H T) (Pk.wo H' T) := fun a o h => by
  obtain ⟨h1, h2⟩ := wo_some.mp h
  refine wo_some.mpr ⟨h1, f a o (fun x e z => ?_) h2⟩
  unfold Shf at n
  rw [e] at n
  exact h1 (hT a (by rw [z]; exact n.1))
theorem Now.fr {G : Gx} {S : Addr → Prop} {ρ : En} {σ : L2.St} {H H' : Hp} {s s' : Sh} (n : Now G S ρ σ H s) (f : Fr G H H') (h : Shf G S (Tw S ρ σ) H' s') : Now G S ρ σ H' s' := by
  have w : Same (Pk.wo H (Tw S ρ σ)) (Pk.wo H' (Tw S ρ σ)) := Now.wo (ρ := ρ) (σ := σ) n.sh (fun _ z => .inl z) f
  have nd : ∀ a, Ow ρ σ a → ∀ x, G.dk = some x → a ≠ x.2.2 := fun a ha x e z => by
    have q := n.sh
    unfold Shf at q
    rw [e] at q
    exact n.env.dis a ha (by rw [z]; exact q.1)
  refine ⟨⟨n.env.len, fun i d e => ?_, fun i d e => ?_, n.env.inj, n.env.dis, fun a ha => ?_⟩, h⟩
  · obtain ⟨v, h1, h2⟩ := n.env.pur i d e
    exact ⟨v, h1, Rep.mono w d h2⟩
  · obtain ⟨a, h1, h2⟩ := n.env.own i d e
    have na := nd a ⟨i, d, e, h1⟩
    refine ⟨a, h1, ?_⟩
    cases d with
    | lst l =>
      obtain ⟨vs, e1, e2⟩ := h2
      exact ⟨vs, f a _ na e1, RepL.mono w l e2⟩
    | dic l => exact f a _ na h2
    | lev ks =>
      obtain ⟨xs, e1, e2, e3⟩ := h2
      exact ⟨xs, f a _ na e1, e2, fun p hp => (e3 p hp).mono w⟩
    | _ => exact h2.elim
  · by_cases hx : ∀ x, G.dk = some x → a ≠ x.2.2
    · cases e : H a with
      | none => exact absurd e (n.env.dom a ha)
      | some o =>
        rw [f a o hx e]
        exact fun z => by cases z
    · obtain ⟨x, hx⟩ := Classical.not_forall.mp hx
      obtain ⟨e, hx⟩ := Classical.not_imp.mp hx
      have hx := Classical.not_not.mp hx
      unfold Shf at h
      rw [e] at h
      obtain ⟨_, _, kvs, h3, _⟩ := h
      rw [hx, h3]
      exact fun z => by cases z
/-- the shelf stays where the heap only grows -/
theorem Shf.same {G : Gx} {S T : Addr → Prop} {H H' : Hp} {s : Sh} (h : Shf G S T H s) (e : Same H H') : Shf G S T H' s := by
  unfold Shf at h ⊢
  split
  · rename_i q
    rw [q] at h
    exact h
  · rename_i a0 dx d0 q
    rw [q] at h
    obtain ⟨h1, h2, kvs, h3, h4⟩ := h
    exact ⟨h1, e _ _ h2, kvs, e _ _ h3, h4.mono fun a o z => wo_some.mpr ⟨(wo_some.mp z).1, e _ _ (wo_some.mp z).2⟩⟩
theorem Now.same {G : Gx} {S : Addr → Prop} {ρ : En} {σ : L2.St} {H H' : Hp} {s : Sh} (n : Now G S ρ σ H s) (e : Same H H') : Now G S ρ σ H' s := n.fr (.of e) (n.sh.same e)
theorem wo_same2 {H H' : Hp} {T : Addr → Prop} (e : Same H H') : Same (wo H T) (wo H' T) := fun a o z => wo_some.mpr ⟨(wo_some.mp z).1, e _ _ (wo_some.mp z).2⟩
theorem same_new {H : Hp} {p : Addr} {o : HO} (h : H p = none) : Same H (upd H p o) := fun b x e => by
  rw [upd_ne (ne_of_none e h)]
  exact e
theorem wo_new {H : Hp} {T : Addr → Prop} {p : Addr} {o : HO} (d : Dom T H) (h : H p = none) : wo (upd H p o) T p = some o := wo_some.mpr ⟨fun z => d p z h, upd_same⟩
/-- a value that is read at once: a list may be one that still grows -/
def RepB (G : Gx) (H Hw : Hp) : D → V → Prop
  | .lst l, v => ∃ a vs, v = .ref a ∧ H a = some (.lst vs) ∧ RepL G Hw l vs
  | d, v => Rep G Hw d v
theorem Rep.b {G : Gx} {H Hw : Hp} (e : Same Hw H) {d : D} {v : V} (h : Rep G Hw d v) : RepB G H Hw d v := by
  cases d with
  | lst l =>
    unfold Rep at h
    obtain ⟨a, vs, h1, h2, h3⟩ := h
    exact ⟨a, vs, h1, e _ _ h2, h3⟩
  | _ => exact h
theorem RepB.mono {G : Gx} {H Hw H' Hw' : Hp} (e : Same H H') (e' : Same Hw Hw') {d : D} {v : V} (h : RepB G H Hw d v) : RepB G H' Hw' d v := by
  cases d with
  | lst l =>
    obtain ⟨a, vs, h1, h2, h3⟩ := h
    exact ⟨a, vs, h1, e _ _ h2, RepL.mono e' l h3⟩
  | _ => exact Rep.mono e' _ h
end Pk
end
section
-- PkOps
set_option linter.all false
set_option maxRecDepth 100000
/-! The operators over data. -/
namespace Pk
open PySem PySem.Spec PyProof.Rows L2

/-- what is wanted of a value that stands for z -/
def VRes (G : Gx) (T : Addr → Prop) (H : Hp) (z : D) (Q : VK) : Prop := ∀ v H', Same H H' → Rep G (wo H' T) z v → Q v H'
theorem VRes.flat {G : Gx} {T : Addr → Prop} {H : Hp} {z : D} {Q : VK} {v : V} (q : VRes G T H z Q) (h : Rep G (wo H T) z v) : Q v H := q v H (Same.refl H) h
theorem VRes.tup {G : Gx} {T : Addr → Prop} {H : Hp} {l : List D} {Q : VK} {vs : List V} (q : VRes G T H (.tup l) Q) (d : Dom T H) (h : RepL G (wo H T) l vs) : ∀ p, H p = none → Q (.ref p) (upd H p (.tup vs)) := fun p hp =>
  q _ _ (same_new hp) (by
    unfold Rep
    exact ⟨p, vs, rfl, .of (wo_new d hp), RepL.mono (wo_same2 (same_new hp)) l h⟩)
theorem VRes.lst {G : Gx} {T : Addr → Prop} {H : Hp} {l : List D} {Q : VK} {vs : List V} (q : VRes G T H (.lst l) Q) (d : Dom T H) (h : RepL G (wo H T) l vs) : ∀ p, H p = none → Q (.ref p) (upd H p (.lst vs)) := fun p hp =>
  q _ _ (same_new hp) (by
    unfold Rep
    exact ⟨p, vs, rfl, wo_new d hp, RepL.mono (wo_same2 (same_new hp)) l h⟩)
structure Ctx (G : Gx) (X : Cx) : Prop where
  K : X.K = G.K
  P : X.prog = G.P
  w : X.w = G.w
  mg : X.mg = G.mg
  calm : X.calm = true
  hu : X.A.units + 65 < cLine
section
variable {G : Gx} {T : Addr → Prop} {H Hw : Hp} {v : V}
theorem RepB.tup {l : List D} (h : RepB G H Hw (.tup l) v) : ∃ a vs, v = .ref a ∧ SqT G.K Hw a vs ∧ RepL G Hw l vs := h
theorem RepB.lst {l : List D} (h : RepB G H Hw (.lst l) v) : ∃ a vs, v = .ref a ∧ H a = some (.lst vs) ∧ RepL G Hw l vs := h
theorem RepB.int {i : Int} (h : RepB G H Hw (.int i) v) : v = .int i := h
theorem RepB.str {l : List Nat} (h : RepB G H Hw (.str l) v) : v = .str ⟨l.toArray⟩ := h
theorem RepB.bl {b : Bool} (h : RepB G H Hw (.bl b) v) : v = .bl b := h
theorem strLen (l : List Nat) : (⟨l.toArray⟩ : PySem.Str).length = l.length := by simp [PySem.Str.length]
theorem strApp (a b : List Nat) : (⟨a.toArray⟩ : PySem.Str) ++ ⟨b.toArray⟩ = ⟨(a ++ b).toArray⟩ := by
  show PySem.Str.mk (a.toArray ++ b.toArray) = _
  simp
end
def bopOf : Bop → Operator
  | .add => .Add | .sub => .Sub | .mul => .Mult | .mod => .Mod | .fdiv => .FloorDiv | .pow => .Pow | .shr => .RShift | .land => .BitAnd
def rB (G : Gx) (o : Bop) : R2 := fun x y H Q => ∃ T d e z, Dom T H ∧ RepB G H (wo H T) d x ∧ RepB G H (wo H T) e y ∧ binD o d e = some z ∧ VRes G T H z Q
section
variable {G : Gx} {X : Cx}
theorem binD_add {d e z : D} (h : binD .add d e = some z) : (∃ i j, d = .int i ∧ e = .int j ∧ z = .int (i + j)) ∨ (∃ a b, d = .str a ∧ e = .str b ∧ a.length + b.length ≤ sizeLine ∧ z = .str (a ++ b)) ∨
    (∃ a b, d = .tup a ∧ e = .tup b ∧ a.length + b.length ≤ sizeLine ∧ z = .tup (a ++ b)) ∨ (∃ a b, d = .lst a ∧ e = .lst b ∧ a.length + b.length ≤ sizeLine ∧ z = .lst (a ++ b)) := by
  unfold binD at h
  split at h <;> simp_all
theorem binD_ints {o : Bop} {d e z : D} (h : binD o d e = some z) : (∃ i j, d = .int i ∧ e = .int j) ∨ (∃ c n, o = .mul ∧ d = .str [c] ∧ e = .int n ∧ (0 ≤ n ∧ n < 100) ∧ z = .str (List.replicate n.toNat c)) ∨ o = .add := by
  unfold binD at h
  split at h <;> simp_all
theorem op_bin (C : Ctx G X) (o : Bop) : OpR X (binaryOp (bopOf o)) (rB G o) := by
  intro pins s σ H x y v u Q I rx ry h
  obtain ⟨T, d, e, z, hT, hd, he, hz, q⟩ := h
  have e0 := binD_ints hz
  rcases e0 with ⟨i, j, rfl, rfl⟩ | ⟨c, n, rfl, rfl, rfl, hn, rfl⟩ | rfl
  · have ex := hd.int
    have ey := he.int
    subst ex ey
    cases o with
    | add =>
      cases hz
      exact op_add pins s σ H _ _ v u Q I rx ry ⟨i, j, rfl, rfl, q.flat rfl⟩
    | sub =>
      cases hz
      exact op_sub pins s σ H _ _ v u Q I rx ry ⟨i, j, rfl, rfl, q.flat rfl⟩
    | mul =>
      simp only [binD] at hz
      split at hz
      · rename_i hc
        cases hz
        exact op_mul pins s σ H _ _ v u Q I rx ry ⟨i, j, rfl, rfl, hc, q.flat rfl⟩
      · cases hz
    | mod =>
      simp only [binD] at hz
      split at hz
      · rename_i hc
        cases hz
        exact op_mod pins s σ H _ _ v u Q I rx ry ⟨i, j, rfl, rfl, hc, q.flat rfl⟩
      · cases hz
    | fdiv =>
      simp only [binD] at hz
      split at hz
      · rename_i hc
        cases hz
        exact op_fdiv pins s σ H _ _ v u Q I rx ry ⟨i, j, rfl, rfl, hc, q.flat rfl⟩
      · cases hz
    | pow =>
      simp only [binD] at hz
      split at hz
      · rename_i hc
        cases hz
        exact op_pow pins s σ H _ _ v u Q I rx ry ⟨i, j, rfl, rfl, hc, q.flat rfl⟩
      · cases hz
    | shr =>
      simp only [binD] at hz
      split at hz
      · rename_i hc
        cases hz
        exact op_shr pins s σ H _ _ v u Q I rx ry ⟨i, j, rfl, rfl, hc, q.flat rfl⟩
      · cases hz
    | land =>
      cases hz
      exact op_and pins s σ H _ _ v u Q I rx ry ⟨i, j, rfl, rfl, q.flat rfl⟩
  · have ex := hd.str
    have ey := he.int
    subst ex ey
    obtain ⟨t, rfl⟩ := rx
    obtain ⟨t', rfl⟩ := ry
    have hl : (⟨[c].toArray⟩ : PySem.Str).length = 1 := rfl
    have hs : sizeLine = 16777216 := sizeLine_eq
    have ok : MulOk (⟨[c].toArray⟩ : PySem.Str) n := by
      refine ⟨?_, fun h1 h2 => ?_, fun h1 h2 => ?_⟩
      · have h1 : decide (n < -(2 ^ 63 : Int)) = false := decide_eq_false (by omega)
        have h2 : decide (n ≥ 2 ^ 63) = false := decide_eq_false (by omega)
        rw [h1, h2]
        rfl
      · rw [hl]
        have h3 : (1 : Int) ≤ (2 ^ 63 - 1) / n := Int.le_ediv_of_mul_le (by omega) (by omega)
        have h4 : ((1 : Nat) : Int) = 1 := rfl
        omega
      · rw [hl]
        show decide (1 * n.toNat > sizeLine) = false
        exact decide_eq_false (by omega)
    refine PySem.SB.mul ok fun t1 k => ⟨.str _, H, I.tok k, ⟨_, rfl⟩, ?_⟩
    have e : Txt.mul ⟨[c].toArray⟩ n = ⟨(List.replicate n.toNat c).toArray⟩ := by
      unfold Txt.mul
      by_cases h1 : n < 1
      · rw [if_pos h1, show n.toNat = 0 by omega]
        rfl
      · rw [if_neg h1]
        by_cases h2 : n = 1
        · subst h2
          rfl
        · rw [if_neg (by simp [h2, hl])]
          have key : ∀ (k : Nat) (acc : Array Nat), (List.replicate k ([c].toArray)).foldl (· ++ ·) acc = acc ++ (List.replicate k c).toArray := by
            intro k
            induction k with
            | zero => intro acc; simp
            | succ k ih =>
              intro acc
              rw [List.replicate_succ, List.foldl_cons, ih, List.replicate_succ]
              apply Array.toList_inj.mp
              simp
          have e2 := key n.toNat #[]
          show PySem.Str.mk ((List.replicate n.toNat ([c].toArray)).foldl (· ++ ·) #[]) = _
          rw [e2]
          simp
    rw [e]
    exact q.flat rfl
  · rcases binD_add hz with ⟨i, j, rfl, rfl, rfl⟩ | ⟨a, b, rfl, rfl, hl, rfl⟩ | ⟨a, b, rfl, rfl, hl, rfl⟩ | ⟨a, b, rfl, rfl, hl, rfl⟩
    · have ex := hd.int
      have ey := he.int
      subst ex ey
      exact op_add pins s σ H _ _ v u Q I rx ry ⟨i, j, rfl, rfl, q.flat rfl⟩
    · have ex := hd.str
      have ey := he.str
      subst ex ey
      refine op_add_str pins s σ H _ _ v u Q I rx ry ⟨_, _, rfl, rfl, by rw [strLen, strLen]; exact hl, ?_⟩
      rw [strApp]
      exact q.flat rfl
    · obtain ⟨p, vs, rfl, h1, h2⟩ := hd.tup
      obtain ⟨p', ws, rfl, h3, h4⟩ := he.tup
      have w1 := wo_same H T
      have k1 : SqT X.K H p vs := by rw [C.K]; exact Same.sqt w1 h1
      have k2 : SqT X.K H p' ws := by rw [C.K]; exact Same.sqt w1 h3
      have l1 := h2.len
      have l2 := h4.len
      refine op_catA pins s σ H _ _ v u Q I rx ry ⟨p, p', vs, ws, rfl, rfl, k1, k2, by omega, fun z => ?_, fun _ z => ?_, fun _ _ => ?_⟩
      · have ea : a = [] := List.length_eq_zero_iff.mp (by rw [l1, z]; rfl)
        subst ea
        exact q.flat (by unfold Rep; exact ⟨p', ws, rfl, h3, h4⟩)
      · have eb : b = [] := List.length_eq_zero_iff.mp (by rw [l2, z]; rfl)
        subst eb
        rw [List.append_nil] at q
        exact q.flat (by unfold Rep; exact ⟨p, vs, rfl, h1, h2⟩)
      · exact q.tup hT (h2.append h4)
    · obtain ⟨p, vs, rfl, h1, h2⟩ := hd.lst
      obtain ⟨p', ws, rfl, h3, h4⟩ := he.lst
      have l1 := h2.len
      have l2 := h4.len
      exact op_cat pins s σ H _ _ v u Q I rx ry ⟨p, p', vs, ws, rfl, rfl, h1, h3, by omega, q.lst hT (h2.append h4)⟩

/-! ### data at any depth -/
mutual
theorem Rep.dp {H : Hp} : ∀ (d : D) {v : V}, simp? d = true → Rep G H d v → Dp G.K H v (toPy d)
  | .non, _, _, h => by
    have e : _ = V.non := h
    subst e
    exact .non
  | .bl b, _, _, h => by
    have e : _ = V.bl b := h
    subst e
    exact .bl b
  | .int i, _, _, h => by
    have e : _ = V.int i := h
    subst e
    exact .int i
  | .str l, _, _, h => by
    have e : _ = V.str ⟨l.toArray⟩ := h
    subst e
    exact .str _
  | .tup l, _, hs, h => by
    unfold Rep at h
    obtain ⟨a, vs, rfl, h2, h3⟩ := h
    exact .tup h2 (RepL.dp l hs h3)
  | .lst l, _, hs, h => by
    unfold Rep at h
    obtain ⟨a, vs, rfl, h2, h3⟩ := h
    exact .lst (.of h2) (RepL.dp l hs h3)
theorem RepL.dp {H : Hp} : ∀ (l : List D) {vs : List V}, simpL l = true → RepL G H l vs → DpAll G.K H vs (toPyL l)
  | [], _, _, h => by
    unfold RepL at h
    subst h
    exact .nil
  | d :: r, _, hs, h => by
    unfold RepL at h
    obtain ⟨v, ws, rfl, h2, h3⟩ := h
    have hs2 : (simp? d && simpL r) = true := hs
    rw [Bool.and_eq_true] at hs2
    exact .cons (Rep.dp d hs2.1 h2) (RepL.dp r hs2.2 h3)
end
theorem RepB.dp {H Hw : Hp} (e : Same Hw H) {d : D} {v : V} (h : RepB G H Hw d v) (hs : simp? d = true) : Dp G.K H v (toPy d) := by
  cases d with
  | lst l =>
    obtain ⟨a, vs, rfl, h2, h3⟩ := h
    exact .lst (.of h2) (RepL.dp l hs (RepL.mono e l h3))
  | non => exact Rep.dp .non hs (Rep.mono e _ h)
  | bl b => exact Rep.dp (.bl b) hs (Rep.mono e _ h)
  | int i => exact Rep.dp (.int i) hs (Rep.mono e _ h)
  | str l => exact Rep.dp (.str l) hs (Rep.mono e _ h)
  | tup l => exact Rep.dp (.tup l) hs (Rep.mono e _ h)
  | _ => cases hs
def copOf : Cop → CmpOp
  | .eq => .Eq | .ne => .NotEq | .lt => .Lt | .le => .LtE | .gt => .Gt | .ge => .GtE | .isin => .In | .notin => .NotIn | .isN => .Is | .notN => .IsNot
def rC (G : Gx) (o : Cop) : R2 := fun x y H Q => ∃ T d e z, Dom T H ∧ RepB G H (wo H T) d x ∧ RepB G H (wo H T) e y ∧ cmpD o d e = some z ∧ VRes G T H z Q
theorem eqD_cases {d e : D} {b : Bool} (h : eqD d e = some b) : (∃ i j, d = .int i ∧ e = .int j ∧ b = decide (i = j)) ∨ (∃ i j, d = .str i ∧ e = .str j ∧ b = decide (i = j)) ∨ (∃ i j, d = .bl i ∧ e = .bl j ∧ b = decide (i = j)) ∨
    ((shp d = true ∧ shp e = true) ∧ b = PyData.eqv (toPy d) (toPy e)) := by
  unfold eqD at h
  split at h
  · cases h; exact .inl ⟨_, _, rfl, rfl, rfl⟩
  · cases h; exact .inr (.inl ⟨_, _, rfl, rfl, rfl⟩)
  · cases h; exact .inr (.inr (.inl ⟨_, _, rfl, rfl, rfl⟩))
  · split at h
    · rename_i hc
      cases h
      exact .inr (.inr (.inr ⟨hc, rfl⟩))
    · cases h
theorem shp_and {d : D} (h : shp d = true) : simp? d = true ∧ SeqAt.shaped (toPy d) = true := by
  unfold shp at h
  rwa [Bool.and_eq_true] at h
theorem dec_strs (i j : List Nat) : decide (V.str ⟨i.toArray⟩ = V.str ⟨j.toArray⟩) = decide (i = j) := by
  rw [Bool.eq_iff_iff]
  simp
theorem op_cmp_eq (C : Ctx G X) : OpR X (compareOp .Eq) (rC G .eq) := by
  intro pins s σ H x y v u Q I rx ry h
  obtain ⟨T, d, e, z, hT, hd, he, hz, q⟩ := h
  obtain ⟨b, hb, rfl⟩ := Option.map_eq_some_iff.mp hz
  rcases eqD_cases hb with ⟨i, j, rfl, rfl, rfl⟩ | ⟨i, j, rfl, rfl, rfl⟩ | ⟨i, j, rfl, rfl, rfl⟩ | ⟨⟨h1, h2⟩, rfl⟩
  · have ex := hd.int
    have ey := he.int
    subst ex ey
    refine op_eq pins s σ H _ _ v u Q I rx ry ⟨rfl, ?_⟩
    rw [dec_int, Bool.beq_eq_decide_eq]
    exact q.flat rfl
  · have ex := hd.str
    have ey := he.str
    subst ex ey
    refine op_eq pins s σ H _ _ v u Q I rx ry ⟨rfl, ?_⟩
    rw [dec_strs]
    exact q.flat rfl
  · have ex := hd.bl
    have ey := he.bl
    subst ex ey
    refine op_eq pins s σ H _ _ v u Q I rx ry ⟨rfl, ?_⟩
    rw [dec_bl, Bool.beq_eq_decide_eq]
    exact q.flat rfl
  · obtain ⟨a1, a2⟩ := shp_and h1
    obtain ⟨b1, b2⟩ := shp_and h2
    refine op_eqD (by have := C.hu; omega) pins s σ H x y v u Q I rx ry ⟨_, _, ?_, ?_, a2, b2, q.flat rfl⟩
    · rw [C.K]; exact hd.dp (wo_same H T) a1
    · rw [C.K]; exact he.dp (wo_same H T) b1
theorem op_cmp_ne (C : Ctx G X) : OpR X (compareOp .NotEq) (rC G .ne) := by
  intro pins s σ H x y v u Q I rx ry h
  obtain ⟨T, d, e, z, hT, hd, he, hz, q⟩ := h
  obtain ⟨b, hb, rfl⟩ := Option.map_eq_some_iff.mp hz
  rcases eqD_cases hb with ⟨i, j, rfl, rfl, rfl⟩ | ⟨i, j, rfl, rfl, rfl⟩ | ⟨i, j, rfl, rfl, rfl⟩ | ⟨⟨h1, h2⟩, rfl⟩
  · have ex := hd.int
    have ey := he.int
    subst ex ey
    refine op_ne pins s σ H _ _ v u Q I rx ry ⟨rfl, ?_⟩
    rw [dec_int, Bool.beq_eq_decide_eq]
    exact q.flat rfl
  · have ex := hd.str
    have ey := he.str
    subst ex ey
    refine op_ne pins s σ H _ _ v u Q I rx ry ⟨rfl, ?_⟩
    rw [dec_strs]
    exact q.flat rfl
  · have ex := hd.bl
    have ey := he.bl
    subst ex ey
    refine op_ne pins s σ H _ _ v u Q I rx ry ⟨rfl, ?_⟩
    rw [dec_bl, Bool.beq_eq_decide_eq]
    exact q.flat rfl
  · obtain ⟨a1, a2⟩ := shp_and h1
    obtain ⟨b1, b2⟩ := shp_and h2
    refine op_neD (by have := C.hu; omega) pins s σ H x y v u Q I rx ry ⟨_, _, ?_, ?_, a2, b2, q.flat rfl⟩
    · rw [C.K]; exact hd.dp (wo_same H T) a1
    · rw [C.K]; exact he.dp (wo_same H T) b1
theorem cmpD_ints {o : Cop} {d e z : D} (h : cmpD o d e = some z) (ho : o = .le ∨ o = .gt ∨ o = .ge) : ∃ i j, d = .int i ∧ e = .int j := by
  unfold cmpD at h
  split at h <;> simp_all
theorem cmpD_lt {d e z : D} (h : cmpD .lt d e = some z) : (∃ i j, d = .int i ∧ e = .int j ∧ z = .bl (decide (i < j))) ∨ (∃ i j, d = .str i ∧ e = .str j ∧ z = .bl (ltS i j)) ∨
    ∃ p q, d = ofPair p ∧ e = ofPair q ∧ z = .bl (ltP p q) := by
  unfold cmpD at h
  split at h
  all_goals first
    | (cases h; exact .inl ⟨_, _, rfl, rfl, rfl⟩)
    | (cases h; exact .inr (.inl ⟨_, _, rfl, rfl, rfl⟩))
    | (cases h; exact .inr (.inr ⟨(_, _), (_, _), rfl, rfl, rfl⟩))
    | simp_all
theorem lexLt_pair (p q : Int × Int) : HT.lexLt [p.1, p.2] [q.1, q.2] = ltP p q := by
  unfold HT.lexLt ltP
  rw [Bool.eq_iff_iff]
  unfold HT.lexLt
  by_cases h1 : p.1 = q.1
  · rw [if_pos h1]
    by_cases h2 : p.2 = q.2
    · rw [if_pos h2]
      unfold HT.lexLt
      simp [h1, h2]
    · rw [if_neg h2]
      simp [h1]
  · rw [if_neg h1]
    simp [h1]
theorem op_cmp_lt (C : Ctx G X) : OpR X (compareOp .Lt) (rC G .lt) := by
  intro pins s σ H x y v u Q I rx ry h
  obtain ⟨T, d, e, z, hT, hd, he, hz, q⟩ := h
  rcases cmpD_lt hz with ⟨i, j, rfl, rfl, rfl⟩ | ⟨i, j, rfl, rfl, rfl⟩ | ⟨p, r, rfl, rfl, rfl⟩
  · have ex := hd.int
    have ey := he.int
    subst ex ey
    exact op_lt pins s σ H _ _ v u Q I rx ry ⟨i, j, rfl, rfl, q.flat rfl⟩
  · have ex := hd.str
    have ey := he.str
    subst ex ey
    exact op_lt_str pins s σ H _ _ v u Q I rx ry ⟨_, _, rfl, rfl, q.flat rfl⟩
  · obtain ⟨a, rfl, h1⟩ := Rep.pair (Rep.mono (wo_same H T) _ hd)
    obtain ⟨b, rfl, h2⟩ := Rep.pair (Rep.mono (wo_same H T) _ he)
    refine op_ltT (by have := C.hu; omega) pins s σ H _ _ v u Q I rx ry ⟨a, b, [p.1, p.2], [r.1, r.2], rfl, rfl, ?_, ?_, ?_⟩
    · rw [C.K]; exact h1
    · rw [C.K]; exact h2
    · rw [lexLt_pair]
      exact q.flat rfl
theorem op_cmp_int (C : Ctx G X) {o : Cop} (ho : o = .le ∨ o = .gt ∨ o = .ge) : OpR X (compareOp (copOf o)) (rC G o) := by
  intro pins s σ H x y v u Q I rx ry h
  obtain ⟨T, d, e, z, hT, hd, he, hz, q⟩ := h
  obtain ⟨i, j, rfl, rfl⟩ := cmpD_ints hz ho
  have ex := hd.int
  have ey := he.int
  subst ex ey
  rcases ho with rfl | rfl | rfl <;> cases hz
  · exact op_le pins s σ H _ _ v u Q I rx ry ⟨i, j, rfl, rfl, q.flat rfl⟩
  · exact op_gt pins s σ H _ _ v u Q I rx ry ⟨i, j, rfl, rfl, q.flat rfl⟩
  · exact op_ge pins s σ H _ _ v u Q I rx ry ⟨i, j, rfl, rfl, q.flat rfl⟩
theorem op_cmp_isN (C : Ctx G X) : OpR X (compareOp .Is) (rC G .isN) := by
  intro pins s σ H x y v u Q I rx ry h
  obtain ⟨T, d, e, z, hT, hd, he, hz, q⟩ := h
  have e1 : e = .non := by
    unfold cmpD at hz
    split at hz <;> simp_all
  subst e1
  have ey : y = V.non := he
  subst ey
  refine op_isN pins s σ H _ _ v u Q I rx ry ⟨rfl, ?_⟩
  cases hz
  refine q.flat ?_
  show V.bl _ = V.bl _
  congr 1
  cases d with
  | non =>
    have ex : x = V.non := hd
    rw [ex]
    rfl
  | lst l =>
    obtain ⟨a, vs, rfl, _⟩ := hd
    rfl
  | tup l =>
    obtain ⟨a, vs, rfl, _⟩ := hd.tup
    rfl
  | bl b =>
    have ex : x = V.bl b := hd
    rw [ex]
    rfl
  | int b =>
    have ex : x = V.int b := hd
    rw [ex]
    rfl
  | str b =>
    have ex := hd.str
    rw [ex]
    rfl
  | scr b =>
    obtain ⟨a, rfl, _⟩ : ∃ a, x = .ref a ∧ _ := hd
    rfl
  | dic b =>
    obtain ⟨a, rfl, _⟩ : ∃ a, x = .ref a ∧ _ := hd
    rfl
  | lev b =>
    obtain ⟨a, xs, rfl, _⟩ : ∃ a xs, x = .ref a ∧ _ := hd
    rfl
  | fn f =>
    have ex : x = V.ref (G.fa f) := hd
    rw [ex]
    rfl
  | desk =>
    obtain ⟨a, _, rfl⟩ : ∃ a, G.dk = some a ∧ x = .ref a.1 := hd
    rfl
theorem op_cmp_notN (C : Ctx G X) : OpR X (compareOp .IsNot) (rC G .notN) := by
  intro pins s σ H x y v u Q I rx ry h
  obtain ⟨T, d, e, z, hT, hd, he, hz, q⟩ := h
  have e1 : e = .non := by
    unfold cmpD at hz
    split at hz <;> simp_all
  subst e1
  have ey : y = V.non := he
  subst ey
  refine op_notN pins s σ H _ _ v u Q I rx ry ⟨rfl, ?_⟩
  cases hz
  refine q.flat ?_
  show V.bl _ = V.bl _
  congr 1
  cases d with
  | non =>
    have ex : x = V.non := hd
    rw [ex]
    rfl
  | lst l =>
    obtain ⟨a, vs, rfl, _⟩ := hd
    rfl
  | tup l =>
    obtain ⟨a, vs, rfl, _⟩ := hd.tup
    rfl
  | bl b =>
    have ex : x = V.bl b := hd
    rw [ex]
    rfl
  | int b =>
    have ex : x = V.int b := hd
    rw [ex]
    rfl
  | str b =>
    have ex := hd.str
    rw [ex]
    rfl
  | scr b =>
    obtain ⟨a, rfl, _⟩ : ∃ a, x = .ref a ∧ _ := hd
    rfl
  | dic b =>
    obtain ⟨a, rfl, _⟩ : ∃ a, x = .ref a ∧ _ := hd
    rfl
  | lev b =>
    obtain ⟨a, xs, rfl, _⟩ : ∃ a xs, x = .ref a ∧ _ := hd
    rfl
  | fn f =>
    have ex : x = V.ref (G.fa f) := hd
    rw [ex]
    rfl
  | desk =>
    obtain ⟨a, _, rfl⟩ : ∃ a, G.dk = some a ∧ x = .ref a.1 := hd
    rfl
end
end Pk
end
section
-- PkOps2
set_option linter.all false
set_option maxRecDepth 100000
/-! in, not in; places, slices; built-ins. -/
namespace Pk
open PySem PySem.Spec PyProof.Rows L2
section
variable {G : Gx} {X : Cx}
/-! ### keys that are pairings -/
theorem nk_num {h : Heap} {i : Int} {u : Value} (r : RelV (.int i) u) : NestedIs h (.num i) u := by
  obtain ⟨t, rfl⟩ := r
  exact .int i t
theorem nk_pair {pins : List (Addr × Obj)} {σ : L2.St} {H : Hp} {s : Shared} (hk : X.K = G.K) (I : L2.Inv X pins σ H s) {v : V} {p : Int × Int} {u : Value} (h : PrAt G H v p) (r : RelV v u) : NestedIs s.heap (nkP p) u := by
  obtain ⟨a, rfl, h⟩ := h
  cases r
  rw [← hk] at h
  obtain ⟨its, rv, ⟨o, ho, hc, n, hd⟩, _⟩ := I.tuple h
  refine .tup ho hc hd ?_
  rw [List.toList_toArray]
  cases rv with
  | cons r1 rv =>
    cases rv with
    | cons r2 rv =>
      cases rv
      exact .cons (nk_num r1) (.cons (nk_num r2) .nil)
theorem nk_pairs {pins : List (Addr × Obj)} {σ : L2.St} {H : Hp} {s : Shared} (hk : X.K = G.K) (I : L2.Inv X pins σ H s) : ∀ {vs : List V} {k : List (Int × Int)} {us : List Value}, PrL G H vs k → Vals vs us → NestedAll s.heap (k.map nkP) us
  | [], _, _, h, r => by
    have e : _ = [] := h
    subst e
    cases r
    exact .nil
  | v :: vs, _, _, h, r => by
    obtain ⟨p, q, rfl, h1, h2⟩ := h
    cases r with
    | cons r1 r2 => exact .cons (nk_pair hk I h1 r1) (nk_pairs hk I h2 r2)
theorem nkP_depth (p : Int × Int) : (nkP p).depth = 1 := by
  unfold nkP
  simp [NestedKey.depth, NestedKey.depthAll]
theorem nkPs_depthAll : ∀ k : List (Int × Int), NestedKey.depthAll (k.map nkP) ≤ 1
  | [] => by simp [NestedKey.depthAll]
  | p :: r => by
    have := nkPs_depthAll r
    simp only [List.map_cons, NestedKey.depthAll, nkP_depth]
    omega
theorem nkPs_depth (k : List (Int × Int)) : (nkPs k).depth ≤ 8 := by
  have := nkPs_depthAll k
  unfold nkPs
  simp only [NestedKey.depth]
  omega
theorem nkP_inj {p q : Int × Int} (h : nkP p = nkP q) : p = q := by
  unfold nkP at h
  simp only [NestedKey.tup.injEq, List.cons.injEq, NestedKey.num.injEq, and_true] at h
  exact Prod.ext h.1 h.2
theorem nkPs_inj {k l : List (Int × Int)} (h : nkPs k = nkPs l) : k = l := by
  unfold nkPs at h
  simp only [NestedKey.tup.injEq] at h
  exact List.map_inj_right (fun _ _ e => nkP_inj e) |>.mp h
theorem nk_is {pins : List (Addr × Obj)} {σ : L2.St} {H : Hp} {s : Shared} (hk : X.K = G.K) (I : L2.Inv X pins σ H s) {b : Addr} {k : List (Int × Int)} (h : PrsAt G H b k) : (nestedKind X.prog X.w).is s.heap (nkPs k) b := by
  obtain ⟨vs, h1, h2⟩ := h
  rw [← hk] at h1
  obtain ⟨its, rv, ⟨o, ho, hc, n, hd⟩, _⟩ := I.tuple h1
  refine ⟨.tup ho hc hd ?_, nkPs_depth k⟩
  rw [List.toList_toArray]
  exact nk_pairs hk I h2 rv
abbrev levX (xs : List (List (Int × Int) × Addr)) : List (NestedKey × Addr × Value) := xs.map fun x => (nkPs x.1, x.2, Value.bool true)
theorem lev_nodup {xs : List (List (Int × Int) × Addr)} (h : (xs.map (·.1)).Nodup) : ((levX xs).map (·.1)).Nodup := by
  have e : (levX xs).map (·.1) = (xs.map (·.1)).map nkPs := by simp [List.map_map, Function.comp_def]
  rw [e]
  exact List.Pairwise.map _ (fun a b hne e => hne (nkPs_inj e)) h
theorem lev_keyed {pins : List (Addr × Obj)} {σ : L2.St} {H : Hp} {s : Shared} (C : Ctx G X) (I : L2.Inv X pins σ H s) {a : Addr} {xs : List (List (Int × Int) × Addr)} (h : H a = some (levO G.P G.w a xs)) (hx : ∀ p ∈ xs, PrsAt G H p.2 p.1) :
    LevAt X.prog X.w a xs s.heap ∧ s.heap.DictOfH (nestedKind X.prog X.w) a (levX xs) := by
  have l : LevAt X.prog X.w a xs s.heap := by
    have q := (I.hok a _ h).1
    rw [C.P, C.w]
    exact q
  refine ⟨l, ?_⟩
  obtain ⟨h1, h2, h3, o, es, ep, ho, hex, hd, he⟩ := l
  refine ⟨o, es, ep, ho, hex, hd, by rw [he, List.map_map]; rfl, fun x hm => ?_, lev_nodup h3⟩
  obtain ⟨p, hp, rfl⟩ := List.mem_map.mp hm
  exact nk_is C.K I (hx p hp)
theorem atKey_lev (xs : List (List (Int × Int) × Addr)) (k : List (Int × Int)) : (atKey (levX xs) (nkPs k)).isSome = decide (k ∈ xs.map (·.1)) := by
  unfold atKey
  rw [Option.isSome_map, Bool.eq_iff_iff, List.find?_isSome, decide_eq_true_eq, List.mem_map]
  constructor
  · rintro ⟨x, hx, e⟩
    obtain ⟨p, hp, rfl⟩ := List.mem_map.mp hx
    exact ⟨p, hp, nkPs_inj (of_decide_eq_true e)⟩
  · rintro ⟨p, hp, rfl⟩
    exact ⟨_, List.mem_map.mpr ⟨p, hp, rfl⟩, decide_eq_true rfl⟩
def putLev (xs : List (List (Int × Int) × Addr)) (k : List (Int × Int)) (b : Addr) : List (List (Int × Int) × Addr) := if k ∈ xs.map (·.1) then xs else xs ++ [(k, b)]
theorem stored_lev (xs : List (List (Int × Int) × Addr)) (k : List (Int × Int)) (b : Addr) : storedH (levX xs) (nkPs k) b (.bool true) = levX (putLev xs k b) := by
  unfold storedH putLev
  rw [atKey_lev]
  by_cases h : k ∈ xs.map (·.1)
  · rw [if_pos h, if_pos (decide_eq_true h)]
    unfold levX
    rw [List.map_map]
    refine List.map_congr_left fun p _ => ?_
    show putAt (nkPs k) (.bool true) (nkPs p.1, p.2, .bool true) = _
    unfold putAt
    split <;> rfl
  · rw [if_neg h, if_neg (by simpa using h)]
    unfold levX
    rw [List.map_append]
    rfl
theorem putLev_keys (xs : List (List (Int × Int) × Addr)) (k : List (Int × Int)) (b : Addr) : (putLev xs k b).map (·.1) = if k ∈ xs.map (·.1) then xs.map (·.1) else xs.map (·.1) ++ [k] := by
  unfold putLev
  split <;> simp
theorem putLev_mem {xs : List (List (Int × Int) × Addr)} {k : List (Int × Int)} {b : Addr} {p : List (Int × Int) × Addr} (h : p ∈ putLev xs k b) : p ∈ xs ∨ p = (k, b) := by
  unfold putLev at h
  split at h
  · exact .inl h
  · rcases List.mem_append.mp h with h | h
    · exact .inl h
    · exact .inr (List.mem_singleton.mp h)
/-- from the dict's entries back to my own words -/
theorem lev_of {P : Program} {w : World} {h : Heap} {a : Addr} {xs : List (List (Int × Int) × Addr)} (h0 : (a == sysModules) = false) (hz : xs.length ≤ sizeLine) (hd : h.DictOfH (nestedKind P w) a (levX xs)) : LevAt P w a xs h := by
  obtain ⟨o, es, ep, ho, hex, hdt, he, _, hn⟩ := hd
  refine ⟨h0, hz, ?_, o, es, ep, ho, hex, hdt, by rw [he, List.map_map]; rfl⟩
  have e : (levX xs).map (·.1) = (xs.map (·.1)).map nkPs := by simp [List.map_map, Function.comp_def]
  rw [e] at hn
  exact List.Pairwise.of_map nkPs (fun a b hne e => hne (congrArg nkPs e)) hn
theorem levO_ok {P : Program} {w : World} {H : Hp} {h : Heap} {a : Addr} {xs : List (List (Int × Int) × Addr)} (l : LevAt P w a xs h) : ObjOk P w H h a (levO P w a xs) := by
  have l2 := l
  obtain ⟨_, _, _, o, es, ep, ho, _⟩ := l2
  refine ⟨l, ⟨o, ho⟩, fun h1 h2 p k => ?_⟩
  obtain ⟨z1, z2, z3, o', es', ep', ho', r⟩ := p
  exact ⟨z1, z2, z3, o', es', ep', k o' ho', r⟩

/-! ### in -/
theorem inD_cases {d e : D} {b : Bool} (h : inD d e = some b) : (∃ c z, d = .str [c] ∧ e = .str z ∧ b = decide (c ∈ z)) ∨
    (∃ l, e = .lst l ∧ (shp d = true ∧ shp (.lst l) = true) ∧ b = (toPyL l).any fun z => PyData.eqv z (toPy d)) ∨
    (∃ l, e = .tup l ∧ (shp d = true ∧ shp (.tup l) = true) ∧ b = (toPyL l).any fun z => PyData.eqv z (toPy d)) ∨
    ∃ ks k, e = .lev ks ∧ asPairs d = some k ∧ b = decide (k ∈ ks) := by
  unfold inD at h
  split at h
  · cases h
    exact .inl ⟨_, _, rfl, rfl, rfl⟩
  · split at h
    · rename_i hc
      cases h
      exact .inr (.inl ⟨_, rfl, hc, rfl⟩)
    · cases h
  · split at h
    · rename_i hc
      cases h
      exact .inr (.inr (.inl ⟨_, rfl, hc, rfl⟩))
    · cases h
  · obtain ⟨k, e1, e2⟩ := Option.map_eq_some_iff.mp h
    exact .inr (.inr (.inr ⟨_, k, rfl, e1, e2.symm⟩))
  · cases h
def rInT (K : PySem.W.Frag) (n : Bool) : R2 := fun x y H Q => ∃ d ds, Dp K H x d ∧ Dp K H y (.tuple ds) ∧ SeqAt.shaped d = true ∧ SeqAt.shaped (.tuple ds) = true ∧ Q (.bl (if n = true then !(ds.any fun z => PyData.eqv z d) else ds.any fun z => PyData.eqv z d)) H
theorem op_inT (hu : X.A.units + 65 < cLine) : OpR X (compareOp .In) (rInT X.K false) := by
  intro pins s σ H x y v u Q I rx ry h
  obtain ⟨d, ds, hd, he, sd, se, q⟩ := h
  obtain ⟨as, r1⟩ := Dp.reads I d x v hd rx
  obtain ⟨bs, r2⟩ := Dp.reads I (.tuple ds) y u he ry
  refine SeqAt.in_tuple_reads r2 r1 ?_ (SeqAt.canLay_of_shaped sd) (room_in_shaped sd hu) ⟨.bl _, H, I, rfl, q⟩
  have c := SeqAt.canLay_of_shaped se
  simpa [PyData.canLay0] using c
theorem op_notInT (hu : X.A.units + 65 < cLine) : OpR X (compareOp .NotIn) (rInT X.K true) := by
  intro pins s σ H x y v u Q I rx ry h
  obtain ⟨d, ds, hd, he, sd, se, q⟩ := h
  obtain ⟨as, r1⟩ := Dp.reads I d x v hd rx
  obtain ⟨bs, r2⟩ := Dp.reads I (.tuple ds) y u he ry
  refine SeqAt.notIn_tuple_reads r2 r1 ?_ (SeqAt.canLay_of_shaped sd) (room_in_shaped sd hu) ⟨.bl _, H, I, rfl, q⟩
  have c := SeqAt.canLay_of_shaped se
  simpa [PyData.canLay0] using c
theorem room_nk (C : Ctx G X) : (nestedKind X.prog X.w).room X.A.in1 := by
  have := C.hu
  show X.A.units + 1 + 8 < cLine
  omega
theorem op_cmp_in (C : Ctx G X) : OpR X (compareOp .In) (rC G .isin) := by
  intro pins s σ H x y v u Q I rx ry h
  obtain ⟨T, d, e, z, hT, hd, he, hz, q⟩ := h
  obtain ⟨b, hb, rfl⟩ := Option.map_eq_some_iff.mp hz
  rcases inD_cases hb with ⟨c, z, rfl, rfl, rfl⟩ | ⟨l, rfl, ⟨h1, h2⟩, rfl⟩ | ⟨l, rfl, ⟨h1, h2⟩, rfl⟩ | ⟨ks, k, rfl, h1, rfl⟩
  · have ex := hd.str
    have ey := he.str
    subst ex ey
    exact op_in_sign pins s σ H _ _ v u Q I rx ry ⟨c, _, rfl, rfl, q.flat rfl⟩
  · obtain ⟨a1, a2⟩ := shp_and h1
    obtain ⟨b1, b2⟩ := shp_and h2
    refine op_inD C.hu pins s σ H x y v u Q I rx ry ⟨_, _, ?_, ?_, a2, b2, q.flat rfl⟩
    · rw [C.K]; exact hd.dp (wo_same H T) a1
    · rw [C.K]; exact he.dp (wo_same H T) b1
  · obtain ⟨a1, a2⟩ := shp_and h1
    obtain ⟨b1, b2⟩ := shp_and h2
    refine op_inT C.hu pins s σ H x y v u Q I rx ry ⟨_, _, ?_, ?_, a2, b2, q.flat rfl⟩
    · rw [C.K]; exact hd.dp (wo_same H T) a1
    · rw [C.K]; exact he.dp (wo_same H T) b1
  · obtain ⟨a, xs, rfl, hl, rfl, hx⟩ : ∃ a xs, y = .ref a ∧ wo H T a = some (levO G.P G.w a xs) ∧ ks = xs.map (·.1) ∧ ∀ p ∈ xs, PrsAt G (wo H T) p.2 p.1 := he
    have hd2 : Rep G (wo H T) d x := by
      cases d with
      | tup l => exact hd
      | _ => cases h1
    obtain ⟨b, rfl, hp⟩ := hd2.pairs h1
    cases rx
    cases ry
    obtain ⟨l, hdo⟩ := lev_keyed C I ((wo_same H T) _ _ hl) fun p hp => (hx p hp).mono (wo_same H T)
    refine wpAny_in_heap (room_nk C) (nk_is C.K I (hp.mono (wo_same H T))) l.1 hdo ?_
    rw [atKey_lev]
    exact ⟨.bl _, H, I.tok _, rfl, q.flat rfl⟩
theorem op_cmp_notin (C : Ctx G X) : OpR X (compareOp .NotIn) (rC G .notin) := by
  intro pins s σ H x y v u Q I rx ry h
  obtain ⟨T, d, e, z, hT, hd, he, hz, q⟩ := h
  obtain ⟨b, hb, rfl⟩ := Option.map_eq_some_iff.mp hz
  rcases inD_cases hb with ⟨c, z, rfl, rfl, rfl⟩ | ⟨l, rfl, ⟨h1, h2⟩, rfl⟩ | ⟨l, rfl, ⟨h1, h2⟩, rfl⟩ | ⟨ks, k, rfl, h1, rfl⟩
  · have ex := hd.str
    have ey := he.str
    subst ex ey
    exact op_notIn_sign pins s σ H _ _ v u Q I rx ry ⟨c, _, rfl, rfl, q.flat rfl⟩
  · obtain ⟨a1, a2⟩ := shp_and h1
    obtain ⟨b1, b2⟩ := shp_and h2
    refine op_notInD C.hu pins s σ H x y v u Q I rx ry ⟨_, _, ?_, ?_, a2, b2, q.flat rfl⟩
    · rw [C.K]; exact hd.dp (wo_same H T) a1
    · rw [C.K]; exact he.dp (wo_same H T) b1
  · obtain ⟨a1, a2⟩ := shp_and h1
    obtain ⟨b1, b2⟩ := shp_and h2
    refine op_notInT C.hu pins s σ H x y v u Q I rx ry ⟨_, _, ?_, ?_, a2, b2, q.flat rfl⟩
    · rw [C.K]; exact hd.dp (wo_same H T) a1
    · rw [C.K]; exact he.dp (wo_same H T) b1
  · obtain ⟨a, xs, rfl, hl, rfl, hx⟩ : ∃ a xs, y = .ref a ∧ wo H T a = some (levO G.P G.w a xs) ∧ ks = xs.map (·.1) ∧ ∀ p ∈ xs, PrsAt G (wo H T) p.2 p.1 := he
    have hd2 : Rep G (wo H T) d x := by
      cases d with
      | tup l => exact hd
      | _ => cases h1
    obtain ⟨b, rfl, hp⟩ := hd2.pairs h1
    cases rx
    cases ry
    obtain ⟨l, hdo⟩ := lev_keyed C I ((wo_same H T) _ _ hl) fun p hp => (hx p hp).mono (wo_same H T)
    show wpAny _ _ (do return Value.bool (!(← contains (.ref a) (.ref b)))) _ _ s
    refine wpAny_bind (wpAny_contains_heap (room_nk C) (nk_is C.K I (hp.mono (wo_same H T))) l.1 hdo (wpAny_pure ?_))
    rw [atKey_lev]
    exact ⟨.bl _, H, I.tok _, rfl, q.flat rfl⟩
theorem op_cmp (C : Ctx G X) (o : Cop) : OpR X (compareOp (copOf o)) (rC G o) := by
  cases o with
  | eq => exact op_cmp_eq C
  | ne => exact op_cmp_ne C
  | lt => exact op_cmp_lt C
  | le => exact op_cmp_int C (.inl rfl)
  | gt => exact op_cmp_int C (.inr (.inl rfl))
  | ge => exact op_cmp_int C (.inr (.inr rfl))
  | isin => exact op_cmp_in C
  | notin => exact op_cmp_notin C
  | isN => exact op_cmp_isN C
  | notN => exact op_cmp_notN C
/-- level[k] = True, by values -/
def rSetLev (G : Gx) : TSet := fun o i v H Q => ∃ a xs b k, o = .ref a ∧ i = .ref b ∧ v = .bl true ∧ H a = some (levO G.P G.w a xs) ∧ (∀ p ∈ xs, PrsAt G H p.2 p.1) ∧ PrsAt G H b k ∧ xs.length < sizeLine ∧ Q (upd H a (levO G.P G.w a (putLev xs k b)))
theorem set_lev (C : Ctx G X) : PSet X (rSetLev G) := by
  intro pins s σ H o i v ov iv u Q I ro ri rv h
  obtain ⟨a, xs, b, k, rfl, rfl, rfl, ha, hx, hk, hz, q⟩ := h
  cases ro
  cases ri
  cases rv
  obtain ⟨l, hdo⟩ := lev_keyed C I ha hx
  refine wpAny_setItem_heap (hsz := by unfold levX; rw [List.length_map]; exact Nat.le_of_lt hz) (room_nk C) (nk_is C.K I hk) hdo fun h' hm' hs => ?_
  rw [stored_lev] at hm'
  have hz2 : (putLev xs k b).length ≤ sizeLine := by
    unfold putLev
    split
    · exact l.2.1
    · rw [List.length_append]
      exact hz
  have l2 := lev_of l.1 hz2 hm'
  refine ⟨_, I.write (x := a) (e := a) (by rw [ha]; exact True.intro) (.inl rfl) (fun c q hc e => (hs.2 c hc).trans e) ?_ ?_, q⟩
  · obtain ⟨_, _, _, o, _, _, ho, _⟩ := l2
    exact ⟨o, ho⟩
  · rw [← C.P, ← C.w]
    exact levO_ok l2
end
end Pk
end
section
-- PkOps3
set_option linter.all false
set_option maxRecDepth 100000
/-! places, slices; built-ins. -/
namespace Pk
open PySem PySem.Spec PyProof.Rows L2

/-! ### sorting, plain -/
section
variable {α : Type} {lt : α → α → Bool}
theorem insD_perm (x : α) : ∀ l : List α, (insD lt x l).Perm (x :: l)
  | [] => List.Perm.refl _
  | y :: r => by
    unfold insD
    split
    · exact ((insD_perm x r).cons y).trans (List.Perm.swap x y r)
    · exact List.Perm.refl _
theorem sortD_perm : ∀ l : List α, (sortD lt l).Perm l
  | [] => List.Perm.refl _
  | x :: r => (insD_perm x _).trans ((sortD_perm r).cons x)
theorem insD_sorted (tr : ∀ a b c, lt b a = false → lt c b = false → lt c a = false) (as : ∀ a b, lt a b = true → lt b a = false) (x : α) : ∀ l : List α, l.Pairwise (fun a b => lt b a = false) → (insD lt x l).Pairwise (fun a b => lt b a = false)
  | [], _ => List.pairwise_cons.mpr ⟨fun _ h => (by cases h), List.Pairwise.nil⟩
  | y :: r, h => by
    obtain ⟨h1, h2⟩ := List.pairwise_cons.mp h
    unfold insD
    by_cases c : lt y x = true
    · rw [if_pos c]
      refine List.pairwise_cons.mpr ⟨fun z hz => ?_, insD_sorted tr as x r h2⟩
      rcases List.mem_cons.mp ((insD_perm x r).mem_iff.mp hz) with e | e
      · rw [e]; exact as _ _ c
      · exact h1 z e
    · rw [if_neg c]
      have c2 : lt y x = false := by simpa using c
      refine List.pairwise_cons.mpr ⟨fun z hz => ?_, h⟩
      rcases List.mem_cons.mp hz with e | e
      · rw [e]; exact c2
      · exact tr _ _ _ c2 (h1 z e)
theorem sortD_sorted (tr : ∀ a b c, lt b a = false → lt c b = false → lt c a = false) (as : ∀ a b, lt a b = true → lt b a = false) : ∀ l : List α, (sortD lt l).Pairwise (fun a b => lt b a = false)
  | [] => List.Pairwise.nil
  | x :: r => insD_sorted tr as x _ (sortD_sorted tr as r)
/-- the one rising list of these -/
theorem sortD_one (tr : ∀ a b c, lt b a = false → lt c b = false → lt c a = false) (as : ∀ a b, lt a b = true → lt b a = false) (tot : ∀ a b, lt a b = false → lt b a = false → a = b) {l m : List α} (hp : m.Perm l) (hs : m.Pairwise (fun a b => lt b a = false)) : m = sortD lt l :=
  List.Perm.eq_of_pairwise (fun a b _ _ h1 h2 => tot a b h2 h1) hs (sortD_sorted tr as l) (hp.trans (sortD_perm l).symm)
end
theorem ltI_tr (a b c : Int) (h : ltI b a = false) (h' : ltI c b = false) : ltI c a = false := by
  unfold ltI at *
  simp only [decide_eq_false_iff_not] at *
  omega
theorem ltI_as (a b : Int) (h : ltI a b = true) : ltI b a = false := by
  unfold ltI at *
  simp only [decide_eq_false_iff_not, decide_eq_true_eq] at *
  omega
theorem ltI_tot (a b : Int) (h : ltI a b = false) (h' : ltI b a = false) : a = b := by
  unfold ltI at *
  simp only [decide_eq_false_iff_not] at *
  omega
theorem ltP_tr (a b c : Int × Int) (h : ltP b a = false) (h' : ltP c b = false) : ltP c a = false := by
  unfold ltP at *
  simp only [decide_eq_false_iff_not] at *
  omega
theorem ltP_as (a b : Int × Int) (h : ltP a b = true) : ltP b a = false := by
  unfold ltP at *
  simp only [decide_eq_false_iff_not, decide_eq_true_eq] at *
  omega
theorem ltP_tot (a b : Int × Int) (h : ltP a b = false) (h' : ltP b a = false) : a = b := by
  unfold ltP at *
  simp only [decide_eq_false_iff_not] at *
  exact Prod.ext (by omega) (by omega)
theorem ltS_tr (a b c : List Nat) (h : ltS b a = false) (h' : ltS c b = false) : ltS c a = false := by
  unfold ltS at *
  simp only [decide_eq_false_iff_not] at *
  exact List.not_lt.mpr (List.le_trans (List.not_lt.mp h) (List.not_lt.mp h'))
theorem ltS_as (a b : List Nat) (h : ltS a b = true) : ltS b a = false := by
  unfold ltS at *
  simp only [decide_eq_false_iff_not, decide_eq_true_eq] at *
  exact List.not_lt.mpr (List.le_of_lt h)
theorem ltS_tot (a b : List Nat) (h : ltS a b = false) (h' : ltS b a = false) : a = b := by
  unfold ltS at *
  simp only [decide_eq_false_iff_not] at *
  exact List.le_antisymm (List.not_lt.mp h') (List.not_lt.mp h)
theorem rising_pair : ∀ (x : PySem.Str) (r : List PySem.Str), risingS x r = true → (x :: r).Pairwise (fun a b => ltS (strL b) (strL a) = false)
  | x, [], _ => List.pairwise_cons.mpr ⟨fun _ h => (by cases h), List.Pairwise.nil⟩
  | x, y :: r, h => by
    have h0 : (!ltCps y.cps.toList x.cps.toList && risingS y r) = true := h
    rw [Bool.and_eq_true] at h0
    have h2 := rising_pair y r h0.2
    have e : ltS (strL y) (strL x) = false := by
      have q : ltCps y.cps.toList x.cps.toList = false := by simpa using h0.1
      unfold ltS strL
      rw [← q]
      first
        | rfl
        | (rw [ltCps_eq])
        | simp [ltCps]
    refine List.pairwise_cons.mpr ⟨fun z hz => ?_, h2⟩
    rcases List.mem_cons.mp hz with e2 | e2
    · rw [e2]; exact e
    · exact ltS_tr _ _ _ e ((List.pairwise_cons.mp h2).1 z e2)

section
variable {G : Gx} {X : Cx}
/-! ### places, slices -/
def rIxA (G : Gx) : R2 := fun x y H Q => ∃ T d e z, Dom T H ∧ RepB G H (wo H T) d x ∧ RepB G H (wo H T) e y ∧ ixD d e = some z ∧ (∀ l, d ≠ .dic l) ∧ VRes G T H z Q
theorem atI_some {α : Type} {xs : List α} {i : Int} {v : α} (h : atI xs i = some v) : ∃ j, ixN xs.length i = some j ∧ xs[j]? = some v := by
  unfold atI at h
  cases e : ixN xs.length i with
  | none => rw [e] at h; cases h
  | some j =>
    rw [e] at h
    exact ⟨j, rfl, h⟩
theorem atI_of {α : Type} {xs : List α} {i : Int} {v : α} {j : Nat} (h1 : ixN xs.length i = some j) (h2 : xs[j]? = some v) : atI xs i = some v := by
  unfold atI
  rw [h1]
  exact h2
theorem RepL.atI {H : Hp} {l : List D} {vs : List V} {i : Int} {d : D} (h : RepL G H l vs) (e : atI l i = some d) : ∃ v, L2.atI vs i = some v ∧ Rep G H d v := by
  obtain ⟨j, h1, h2⟩ := atI_some e
  obtain ⟨v, h3, h4⟩ := h.get h2
  exact ⟨v, atI_of (by rw [← h.len]; exact h1) h3, h4⟩
theorem atI_map {α β : Type} (f : α → β) (xs : List α) (i : Int) : L2.atI (xs.map f) i = (L2.atI xs i).map f := by
  unfold L2.atI
  rw [List.length_map]
  cases ixN xs.length i with
  | none => rfl
  | some j => simp
theorem ixD_cases {d e z : D} (h : ixD d e = some z) : (∃ l i, d = .tup l ∧ e = .int i ∧ atI l i = some z) ∨ (∃ l i, d = .lst l ∧ e = .int i ∧ atI l i = some z) ∨
    (∃ l i n, d = .scr l ∧ e = .int i ∧ atI l i = some n ∧ z = .int n) ∨ (∃ l i c, d = .str l ∧ e = .int i ∧ l.length ≤ sizeLine ∧ atI l i = some c ∧ z = .str [c]) ∨
    ∃ l k n, d = .dic l ∧ e = .str k ∧ lookS k l = some n ∧ z = .int n := by
  unfold ixD at h
  split at h
  · exact .inl ⟨_, _, rfl, rfl, h⟩
  · exact .inr (.inl ⟨_, _, rfl, rfl, h⟩)
  · obtain ⟨n, h1, h2⟩ := Option.map_eq_some_iff.mp h
    exact .inr (.inr (.inl ⟨_, _, n, rfl, rfl, h1, h2.symm⟩))
  · split at h
    · rename_i hl
      obtain ⟨n, h1, h2⟩ := Option.map_eq_some_iff.mp h
      exact .inr (.inr (.inr (.inl ⟨_, _, n, rfl, rfl, hl, h1, h2.symm⟩)))
    · cases h
  · obtain ⟨n, h1, h2⟩ := Option.map_eq_some_iff.mp h
    exact .inr (.inr (.inr (.inr ⟨_, _, n, rfl, rfl, h1, h2.symm⟩)))
  · cases h
theorem ix_any (C : Ctx G X) : IxR X (rIxA G) := by
  intro value slice pins s σ H x y v u Q I rx ry h hs
  obtain ⟨T, d, e, z, hT, hd, he, hz, hn, q⟩ := h
  rcases ixD_cases hz with ⟨l, i, rfl, rfl, h1⟩ | ⟨l, i, rfl, rfl, h1⟩ | ⟨l, i, n, rfl, rfl, h1, rfl⟩ | ⟨l, i, c, rfl, rfl, hl, h1, rfl⟩ | ⟨l, k, n, rfl, _⟩
  · obtain ⟨a, vs, rfl, h2, h3⟩ := hd.tup
    have ey := he.int
    subst ey
    obtain ⟨w, h4, h5⟩ := h3.atI h1
    exact ix_tup value slice pins s σ H _ _ v u Q I rx ry ⟨a, vs, i, w, rfl, rfl, by rw [C.K]; exact Same.sqt (wo_same H T) h2, h4, q.flat h5⟩ hs
  · obtain ⟨a, vs, rfl, h2, h3⟩ := hd.lst
    have ey := he.int
    subst ey
    obtain ⟨w, h4, h5⟩ := h3.atI h1
    exact ix_list value slice pins s σ H _ _ v u Q I rx ry ⟨a, vs, i, w, rfl, rfl, .of h2, h4, q.flat h5⟩ hs
  · obtain ⟨a, rfl, h2⟩ : ∃ a, x = .ref a ∧ SqL G.K (wo H T) a (l.map V.int) := hd
    have ey := he.int
    subst ey
    exact ix_list value slice pins s σ H _ _ v u Q I rx ry ⟨a, _, i, .int n, rfl, rfl, by rw [C.K]; exact (wo_same H T).seq h2, by rw [atI_map, h1]; rfl, q.flat rfl⟩ hs
  · have ex := hd.str
    have ey := he.int
    subst ex ey
    exact ix_str value slice pins s σ H _ _ v u Q I rx ry ⟨_, i, c, rfl, rfl, by rw [strLen]; exact hl, h1, q.flat rfl⟩ hs
  · exact absurd rfl (hn l)
def rSlG (G : Gx) : V → Option Int → Option Int → Hp → VK → Prop := fun x lo hi H Q => ∃ T d z, Dom T H ∧ RepB G H (wo H T) d x ∧ slD d lo hi = some z ∧ VRes G T H z Q
theorem slD_cases {d z : D} {lo hi : Option Int} (h : slD d lo hi = some z) : (∃ l, d = .tup l ∧ z = .tup (cutL l lo hi)) ∨ (∃ l, d = .lst l ∧ z = .lst (cutL l lo hi)) ∨
    (∃ l, d = .scr l ∧ z = .lst ((cutL l lo hi).map .int)) ∨ (∃ l, d = .str l ∧ l.length ≤ sizeLine ∧ z = .str (cutL l lo hi)) := by
  unfold slD at h
  split at h
  · cases h; exact .inl ⟨_, rfl, rfl⟩
  · cases h; exact .inr (.inl ⟨_, rfl, rfl⟩)
  · cases h; exact .inr (.inr (.inl ⟨_, rfl, rfl⟩))
  · split at h
    · rename_i hl
      cases h; exact .inr (.inr (.inr ⟨_, rfl, hl, rfl⟩))
    · cases h
  · cases h
theorem cutV_map (ns : List Int) (lo hi : Option Int) : cutV (ns.map V.int) lo hi = (cutL ns lo hi).map V.int := by
  unfold cutV cutL
  rw [List.length_map, List.map_take, List.map_drop]
theorem cutV_whole {vs : List V} {lo hi : Option Int} (h : HT.sIx vs.length 0 lo = 0 ∧ HT.sIx vs.length vs.length hi = vs.length) : cutV vs lo hi = vs := by
  unfold cutV
  rw [h.1, h.2]
  simp
theorem cutL_whole {vs : List D} {lo hi : Option Int} (h : HT.sIx vs.length 0 lo = 0 ∧ HT.sIx vs.length vs.length hi = vs.length) : cutL vs lo hi = vs := by
  unfold cutL
  rw [h.1, h.2]
  simp
theorem cutS_eq (l : List Nat) (lo hi : Option Int) : cutS ⟨l.toArray⟩ lo hi = ⟨(cutL l lo hi).toArray⟩ := by
  unfold cutS cutL
  rw [strLen]
theorem sl_any (C : Ctx G X) : SlR X (rSlG G) := by
  intro pins s σ H x v vl vu lo hi sl Q I rx hs pl pu h
  obtain ⟨T, d, z, hT, hd, hz, q⟩ := h
  rcases slD_cases hz with ⟨l, rfl, rfl⟩ | ⟨l, rfl, rfl⟩ | ⟨l, rfl, rfl⟩ | ⟨l, rfl, hl, rfl⟩
  · obtain ⟨a, vs, rfl, h2, h3⟩ := hd.tup
    have e := h3.len
    refine sl_tupA pins s σ H _ v vl vu lo hi sl Q I rx hs pl pu ⟨a, vs, rfl, by rw [C.K]; exact Same.sqt (wo_same H T) h2, fun hw => ?_, fun _ => q.tup hT (h3.cut lo hi)⟩
    rw [cutL_whole (by rw [e]; exact hw)] at q
    exact q.flat ⟨a, vs, rfl, h2, h3⟩
  · obtain ⟨a, vs, rfl, h2, h3⟩ := hd.lst
    exact sl_list pins s σ H _ v vl vu lo hi sl Q I rx hs pl pu ⟨a, vs, rfl, .of h2, q.lst hT (h3.cut lo hi)⟩
  · obtain ⟨a, rfl, h2⟩ : ∃ a, x = .ref a ∧ SqL G.K (wo H T) a (l.map V.int) := hd
    refine sl_list pins s σ H _ v vl vu lo hi sl Q I rx hs pl pu ⟨a, _, rfl, by rw [C.K]; exact (wo_same H T).seq h2, ?_⟩
    rw [cutV_map]
    exact q.lst hT (RepL.ints _)
  · have ex := hd.str
    subst ex
    refine sl_str pins s σ H _ v vl vu lo hi sl Q I rx hs pl pu ⟨_, rfl, by rw [strLen]; exact hl, ?_⟩
    rw [cutS_eq]
    exact q.flat rfl

/-! ### built-ins -/
/-! inversions -/
theorem len_cases {d z : D} (h : b1D .len1 d = some z) : (∃ l, d = .str l ∧ l.length ≤ sizeLine ∧ z = .int l.length) ∨ (∃ l, d = .tup l ∧ z = .int l.length) ∨ (∃ l, d = .lst l ∧ z = .int l.length) ∨ (∃ l, d = .scr l ∧ z = .int l.length) := by
  cases d with
  | str l =>
    by_cases hl : l.length ≤ sizeLine
    · have e : b1D .len1 (.str l) = some (.int l.length) := if_pos hl
      rw [e] at h; cases h
      exact .inl ⟨l, rfl, hl, rfl⟩
    · have e : b1D .len1 (.str l) = none := if_neg hl
      rw [e] at h; cases h
  | tup l => cases h; exact .inr (.inl ⟨l, rfl, rfl⟩)
  | lst l => cases h; exact .inr (.inr (.inl ⟨l, rfl, rfl⟩))
  | scr l => cases h; exact .inr (.inr (.inr ⟨l, rfl, rfl⟩))
  | _ => cases h
theorem int_cases {d z : D} (h : b1D .int1 d = some z) : (∃ b, d = .bl b ∧ z = .int (if b then 1 else 0)) ∨ (∃ c, d = .str [c] ∧ (48 ≤ c ∧ c ≤ 57) ∧ z = .int ((c - 48 : Nat) : Int)) := by
  cases d with
  | bl b => cases h; exact .inl ⟨b, rfl, rfl⟩
  | str l =>
    match l, h with
    | [], h => cases h
    | [c], h =>
      by_cases hc : 48 ≤ c ∧ c ≤ 57
      · have e : b1D .int1 (.str [c]) = some (.int ((c - 48 : Nat) : Int)) := if_pos hc
        rw [e] at h; cases h
        exact .inr ⟨c, rfl, hc, rfl⟩
      · have e : b1D .int1 (.str [c]) = none := if_neg hc
        rw [e] at h; cases h
    | _ :: _ :: _, h => cases h
  | _ => cases h
theorem str_cases {d z : D} (h : b1D .str1 d = some z) : ∃ i, d = .int i ∧ (0 ≤ i ∧ i ≤ 9) ∧ z = .str [48 + i.toNat] := by
  cases d with
  | int i =>
    by_cases hc : 0 ≤ i ∧ i ≤ 9
    · have e : b1D .str1 (.int i) = some (.str [48 + i.toNat]) := if_pos hc
      rw [e] at h; cases h
      exact ⟨i, rfl, hc, rfl⟩
    · have e : b1D .str1 (.int i) = none := if_neg hc
      rw [e] at h; cases h
  | _ => cases h
theorem tuple_cases {d z : D} (h : b1D .tuple1 d = some z) : (∃ l, d = .lst l ∧ z = .tup l) ∨ (∃ l, d = .tup l ∧ z = .tup l) := by
  cases d with
  | lst l => cases h; exact .inl ⟨l, rfl, rfl⟩
  | tup l => cases h; exact .inr ⟨l, rfl, rfl⟩
  | _ => cases h
theorem list_cases {d z : D} (h : b1D .list1 d = some z) : (∃ l, d = .lst l ∧ z = .lst l) ∨ (∃ l, d = .tup l ∧ z = .lst l) := by
  cases d with
  | lst l => cases h; exact .inl ⟨l, rfl, rfl⟩
  | tup l => cases h; exact .inr ⟨l, rfl, rfl⟩
  | _ => cases h
theorem dict_cases {d z : D} (h : b1D .dict1 d = some z) : ∃ l, d = .dic l ∧ z = .dic l := by
  cases d with
  | dic l => cases h; exact ⟨l, rfl, rfl⟩
  | _ => cases h
theorem all_cases {d z : D} (h : b1D .all1 d = some z) : ∃ l bs, d = .lst l ∧ asBls l = some bs ∧ z = .bl (bs.all id) := by
  cases d with
  | lst l =>
    obtain ⟨bs, h1, h2⟩ := Option.map_eq_some_iff.mp h
    exact ⟨l, bs, rfl, h1, h2.symm⟩
  | _ => cases h
theorem maxd_cases {d z : D} (h : b1D .maxd d = some z) : ∃ l bs, d = .lst l ∧ asInts l = some bs ∧ z = .int (maxL bs) := by
  cases d with
  | lst l =>
    obtain ⟨bs, h1, h2⟩ := Option.map_eq_some_iff.mp h
    exact ⟨l, bs, rfl, h1, h2.symm⟩
  | _ => cases h
theorem sorted_cases {d z : D} (h : b1D .sorted1 d = some z) : ∃ l, d = .lst l ∧ l.length < 64 ∧ ((∃ ns, asInts l = some ns ∧ z = .lst ((sortD ltI ns).map .int)) ∨ (∃ ns, asStrs l = some ns ∧ z = .lst ((sortD ltS ns).map .str)) ∨
    ∃ ns, asPrs l = some ns ∧ (∀ p ∈ ns, 0 ≤ p.1 ∧ p.1 < 64 ∧ 0 ≤ p.2 ∧ p.2 < 64) ∧ z = .lst ((sortD ltP ns).map ofPair)) := by
  cases d with
  | lst l =>
    simp only [b1D] at h
    split at h
    · rename_i hl
      refine ⟨l, rfl, hl, ?_⟩
      split at h
      · rename_i _ _ ns e1
        cases h
        exact .inl ⟨ns, e1, rfl⟩
      · rename_i _ ns _ e1
        cases h
        exact .inr (.inl ⟨ns, e1, rfl⟩)
      · rename_i ns _ _ e1
        split at h
        · rename_i hb
          cases h
          exact .inr (.inr ⟨ns, e1, fun p hp => of_decide_eq_true (List.all_eq_true.mp hb p hp), rfl⟩)
        · cases h
      · cases h
    · cases h
  | _ => cases h
def rB1 (G : Gx) (b : B1) : List V → Hp → VK → Prop := fun xs H Q => ∃ T d x z, xs = [x] ∧ Dom T H ∧ RepB G H (wo H T) d x ∧ b1D b d = some z ∧ VRes G T H z Q
theorem call_b_len (C : Ctx G X) : CallR X (.builtin "len") (rB1 G .len1) := by
  intro pins s σ H xs us Q I r h
  obtain ⟨T, d, x, z, rfl, hT, hd, hz, q⟩ := h
  rcases len_cases hz with ⟨l, rfl, hl, rfl⟩ | ⟨l, rfl, rfl⟩ | ⟨l, rfl, rfl⟩ | ⟨l, rfl, rfl⟩
  · have ex := hd.str
    subst ex
    exact call_len pins s σ H _ us Q I r ⟨_, l.length, rfl, ⟨by rw [strLen]; exact hl, by rw [strLen]⟩, q.flat rfl⟩
  · obtain ⟨a, vs, rfl, h2, h3⟩ := hd.tup
    refine call_len pins s σ H _ us Q I r ⟨_, vs.length, rfl, .inr ⟨vs, by rw [C.K]; exact Same.sqt (wo_same H T) h2, rfl⟩, ?_⟩
    rw [← h3.len]
    exact q.flat rfl
  · obtain ⟨a, vs, rfl, h2, h3⟩ := hd.lst
    refine call_len pins s σ H _ us Q I r ⟨_, vs.length, rfl, .inl ⟨vs, .of h2, rfl⟩, ?_⟩
    rw [← h3.len]
    exact q.flat rfl
  · obtain ⟨a, rfl, h2⟩ : ∃ a, x = .ref a ∧ SqL G.K (wo H T) a (l.map V.int) := hd
    refine call_len pins s σ H _ us Q I r ⟨_, (l.map V.int).length, rfl, .inl ⟨_, by rw [C.K]; exact (wo_same H T).seq h2, rfl⟩, ?_⟩
    rw [List.length_map]
    exact q.flat rfl
theorem digit_int (c : Nat) (h : 48 ≤ c ∧ c ≤ 57) : PySem.intText? ⟨[c].toArray⟩ = some ((c - 48 : Nat) : Int) := by
  have key : ∀ k : Fin 10, PySem.intText? ⟨[k.val + 48].toArray⟩ = some ((k.val : Nat) : Int) := by decide +kernel
  have e := key ⟨c - 48, by omega⟩
  have e2 : c - 48 + 48 = c := by omega
  simp only [e2] at e
  exact e
theorem digit_str (i : Int) (h : 0 ≤ i ∧ i ≤ 9) : PySem.Str.ofString (toString i) = ⟨[48 + i.toNat].toArray⟩ := by
  have key : ∀ k : Fin 10, PySem.Str.ofString (toString ((k.val : Nat) : Int)) = ⟨[48 + k.val].toArray⟩ := by decide +kernel
  have e := key ⟨i.toNat, by omega⟩
  have e2 : ((i.toNat : Nat) : Int) = i := by omega
  simp only [e2] at e
  exact e
theorem digit_log (i : Int) (h : 0 ≤ i ∧ i ≤ 9) : i.natAbs.log2 < 1920 := by
  have h1 : i.natAbs < 2 ^ 4 := by omega
  have h2 : i.natAbs.log2 < 4 := by
    by_cases h0 : i.natAbs = 0
    · rw [h0]; decide
    · exact (Nat.log2_lt h0).mpr h1
  omega
theorem call_b_int (C : Ctx G X) : CallR X (.type "int") (rB1 G .int1) := by
  intro pins s σ H xs us Q I r h
  obtain ⟨T, d, x, z, rfl, hT, hd, hz, q⟩ := h
  rcases int_cases hz with ⟨b, rfl, rfl⟩ | ⟨c, rfl, hc, rfl⟩
  · have ex := hd.bl
    subst ex
    exact call_int1 pins s σ H _ us Q I r (.inr ⟨b, rfl, q.flat rfl⟩)
  · have ex := hd.str
    subst ex
    exact call_int_str pins s σ H _ us Q I r ⟨_, _, rfl, digit_int c hc, by rw [strLen]; exact (by decide : 1 ≤ 640), q.flat rfl⟩
theorem call_b_str (C : Ctx G X) : CallR X (.type "str") (rB1 G .str1) := by
  intro pins s σ H xs us Q I r h
  obtain ⟨T, d, x, z, rfl, hT, hd, hz, q⟩ := h
  obtain ⟨i, rfl, hi, rfl⟩ := str_cases hz
  have ex := hd.int
  subst ex
  refine call_str_int pins s σ H _ us Q I r ⟨i, rfl, digit_log i hi, ?_⟩
  rw [digit_str i hi]
  exact q.flat rfl
theorem call_b_tuple (C : Ctx G X) : CallR X (.type "tuple") (rB1 G .tuple1) := by
  intro pins s σ H xs us Q I r h
  obtain ⟨T, d, x, z, rfl, hT, hd, hz, q⟩ := h
  rcases tuple_cases hz with ⟨l, rfl, rfl⟩ | ⟨l, rfl, rfl⟩
  · obtain ⟨a, vs, rfl, h2, h3⟩ := hd.lst
    exact call_tuple_of pins s σ H _ us Q I r ⟨a, vs, rfl, .inl ⟨.of h2, q.tup hT h3⟩⟩
  · obtain ⟨a, vs, rfl, h2, h3⟩ := hd.tup
    exact call_tuple_of pins s σ H _ us Q I r ⟨a, vs, rfl, .inr ⟨by rw [C.K]; exact Same.sqt (wo_same H T) h2, q.flat ⟨a, vs, rfl, h2, h3⟩⟩⟩
theorem call_b_list (C : Ctx G X) : CallR X (.type "list") (rB1 G .list1) := by
  intro pins s σ H xs us Q I r h
  obtain ⟨T, d, x, z, rfl, hT, hd, hz, q⟩ := h
  rcases list_cases hz with ⟨l, rfl, rfl⟩ | ⟨l, rfl, rfl⟩
  · obtain ⟨a, vs, rfl, h2, h3⟩ := hd.lst
    exact call_list_of pins s σ H _ us Q I r ⟨a, vs, rfl, .inl (.of h2), q.lst hT h3⟩
  · obtain ⟨a, vs, rfl, h2, h3⟩ := hd.tup
    exact call_list_of pins s σ H _ us Q I r ⟨a, vs, rfl, .inr (by rw [C.K]; exact Same.sqt (wo_same H T) h2), q.lst hT h3⟩
theorem call_b_dict (C : Ctx G X) : CallR X (.type "dict") (rB1 G .dict1) := by
  intro pins s σ H xs us Q I r h
  obtain ⟨T, d, x, z, rfl, hT, hd, hz, q⟩ := h
  obtain ⟨l, rfl, rfl⟩ := dict_cases hz
  obtain ⟨a, rfl, h2⟩ : ∃ a, x = .ref a ∧ wo H T a = some (.dK (dicV l)) := hd
  rw [Vals.ref1 r]
  refine d_copyOf I (.inl ((wo_same H T) _ _ h2)) fun p s' hp I' => ⟨.ref p, _, I', rfl, q _ _ (same_new hp) ?_⟩
  exact ⟨p, rfl, wo_new hT hp⟩
theorem call_b_all (C : Ctx G X) : CallR X (.builtin "all") (rB1 G .all1) := by
  intro pins s σ H xs us Q I r h
  obtain ⟨T, d, x, z, rfl, hT, hd, hz, q⟩ := h
  obtain ⟨l, bs, rfl, h1, rfl⟩ := all_cases hz
  obtain ⟨a, vs, rfl, h2, h3⟩ := hd.lst
  obtain ⟨rfl, _⟩ := h3.asBls h1
  exact cr_all C.calm pins s σ H _ us Q I r ⟨a, bs, rfl, .of h2, q.flat rfl⟩
theorem PrL.split {H : Hp} : ∀ {vs : List V} {k : List (Int × Int)}, PrL G H vs k → ∀ v ∈ vs, ∃ p, PrAt G H v p ∧ p ∈ k
  | [], _, _, v, hv => by cases hv
  | x :: vs, _, h, v, hv => by
    obtain ⟨p, r, rfl, h1, h2⟩ := h
    rcases List.mem_cons.mp hv with e | e
    · rw [e]; exact ⟨p, h1, List.mem_cons_self⟩
    · obtain ⟨q, h3, h4⟩ := PrL.split h2 v e
      exact ⟨q, h3, List.mem_cons_of_mem _ h4⟩
theorem PrL.perm {H : Hp} {vs ws : List V} (hp : vs.Perm ws) : ∀ {k : List (Int × Int)}, PrL G H vs k → ∃ k', k'.Perm k ∧ PrL G H ws k' := by
  induction hp with
  | nil =>
    intro k h
    exact ⟨k, List.Perm.refl _, h⟩
  | cons x _ ih =>
    intro k h
    obtain ⟨p, r, rfl, h1, h2⟩ := h
    obtain ⟨k', h3, h4⟩ := ih h2
    exact ⟨p :: k', h3.cons p, p, k', rfl, h1, h4⟩
  | swap x y l =>
    intro k h
    obtain ⟨p, r, rfl, h1, p', r', rfl, h3, h4⟩ := h
    exact ⟨p' :: p :: r', List.Perm.swap p p' r', p', _, rfl, h3, p, r', rfl, h1, h4⟩
  | trans _ _ ih1 ih2 =>
    intro k h
    obtain ⟨k1, h1, h2⟩ := ih1 h
    obtain ⟨k2, h3, h4⟩ := ih2 h2
    exact ⟨k2, h3.trans h1, h4⟩
theorem PrL.pairwise {H : Hp} {R : V → V → Prop} {S : Int × Int → Int × Int → Prop} (hRS : ∀ x y p q, PrAt G H x p → PrAt G H y q → R x y → S p q) : ∀ {vs : List V} {k : List (Int × Int)}, PrL G H vs k → vs.Pairwise R → k.Pairwise S
  | [], _, h, _ => by
    have e : _ = [] := h
    subst e
    exact List.Pairwise.nil
  | x :: vs, _, h, hp => by
    obtain ⟨p, r, rfl, h1, h2⟩ := h
    obtain ⟨h3, h4⟩ := List.pairwise_cons.mp hp
    refine List.pairwise_cons.mpr ⟨fun q hq => ?_, PrL.pairwise hRS h2 h4⟩
    have key : ∀ {ws : List V} {m : List (Int × Int)}, PrL G H ws m → q ∈ m → ∃ y ∈ ws, PrAt G H y q := by
      intro ws
      induction ws with
      | nil =>
        intro m hm hq
        have e : _ = [] := hm
        subst e
        cases hq
      | cons y ws ih =>
        intro m hm hq
        obtain ⟨p', r', rfl, h5, h6⟩ := hm
        rcases List.mem_cons.mp hq with e | e
        · rw [e]; exact ⟨y, List.mem_cons_self, h5⟩
        · obtain ⟨z, h7, h8⟩ := ih h6 e
          exact ⟨z, List.mem_cons_of_mem _ h7, h8⟩
    obtain ⟨y, hy, hyq⟩ := key h2 hq
    exact hRS x y p q h1 hyq (h3 y hy)
theorem bd_pair {p : Int × Int} (h : 0 ≤ p.1 ∧ p.1 < 64 ∧ 0 ≤ p.2 ∧ p.2 < 64) : TS.Bd 64 [p.1, p.2] := fun m hm => by
  rcases List.mem_cons.mp hm with e | e
  · rw [e]; exact ⟨h.1, h.2.1⟩
  · rw [List.mem_singleton.mp e]; exact ⟨h.2.2.1, h.2.2.2⟩
theorem call_b_sorted (C : Ctx G X) : CallR X (.builtin "sorted") (rB1 G .sorted1) := by
  intro pins s σ H xs us Q I r h
  obtain ⟨T, d, x, z, rfl, hT, hd, hz, q⟩ := h
  obtain ⟨l, rfl, hl, hz⟩ := sorted_cases hz
  obtain ⟨a, vs, rfl, h2, h3⟩ := hd.lst
  have hlen := h3.len
  rcases hz with ⟨ns, e1, rfl⟩ | ⟨ns, e1, rfl⟩ | ⟨ns, e1, bd, rfl⟩
  · obtain ⟨rfl, rfl⟩ := h3.asInts e1
    rw [List.length_map] at hl
    refine cr_sorted pins s σ H _ us Q I r ⟨a, ns, rfl, .of h2, hl, fun ns' p hp hs hn => ?_⟩
    have e : ns' = sortD ltI ns := sortD_one ltI_tr ltI_as ltI_tot hp (hs.imp fun h => by unfold ltI; simp only [decide_eq_false_iff_not]; omega)
    rw [e]
    exact q.lst hT (RepL.ints _) p hn
  · obtain ⟨rfl, rfl⟩ := h3.asStrs e1
    rw [List.length_map] at hl
    refine cr_sortedS pins s σ H _ us Q I r ⟨a, ns.map fun x => ⟨x.toArray⟩, rfl, .of h2, by rw [List.length_map]; exact hl, fun ys p hp hs hn => ?_⟩
    have hy : (ys.map strL).Perm ns := by
      have h4 := hp.map strL
      rw [List.map_map] at h4
      have e : (strL ∘ fun x : List Nat => (⟨x.toArray⟩ : PySem.Str)) = id := by
        funext x
        simp [strL]
      rw [e, List.map_id] at h4
      exact h4
    have e : ys.map strL = sortD ltS ns := sortD_one ltS_tr ltS_as ltS_tot hy (by
      rw [List.pairwise_map]
      cases ys with
      | nil => exact List.Pairwise.nil
      | cons y r => exact rising_pair y r hs)
    have e2 : ys.map V.str = (sortD ltS ns).map fun l => V.str ⟨l.toArray⟩ := by
      rw [← e, List.map_map]
      refine List.map_congr_left fun y _ => ?_
      simp [strL]
    rw [e2]
    exact q.lst hT (RepL.strs _) p hn
  · obtain ⟨h4, rfl⟩ := h3.asPrs e1
    have up : ∀ {v p}, PrAt G (wo H T) v p → TupI X.K H v [p.1, p.2] := fun {v p} h => by
      obtain ⟨t, e1, e2⟩ := h
      exact ⟨t, e1, by rw [C.K]; exact Same.sqt (wo_same H T) e2⟩
    refine cr_sortT (d := 2) (B := 64) (by decide) pins s σ H _ us Q I r ⟨a, vs, rfl, .of h2, by omega, fun v hv => ?_, fun ys p hp hs hn => ?_⟩
    · obtain ⟨p, h5, h6⟩ := h4.split v hv
      exact ⟨_, up h5, rfl, bd_pair (bd p h6)⟩
    · obtain ⟨k', h5, h6⟩ := PrL.perm hp.symm h4
      have bd' : ∀ p ∈ k', 0 ≤ p.1 ∧ p.1 < 64 ∧ 0 ≤ p.2 ∧ p.2 < 64 := fun p hp => bd p (h5.mem_iff.mp hp)
      have hk : k'.Pairwise fun p q => TS.code 64 [p.1, p.2] ≤ TS.code 64 [q.1, q.2] := PrL.pairwise (fun x y p q h7 h8 h9 => h9 _ _ (up h7) (up h8)) h6 hs
      have e : k' = sortD ltP ns := sortD_one ltP_tr ltP_as ltP_tot h5 (hk.imp_of_mem fun {p q} m1 m2 h7 => by
        rw [code_pair, code_pair] at h7
        have b1 := bd' p m1
        have b2 := bd' q m2
        unfold ltP
        simp only [decide_eq_false_iff_not]
        omega)
      rw [e] at h6
      exact q.lst hT h6.rep p hn
theorem alike_ints : ∀ ns : List Int, PySem.W.AlikeAll (ns.map PyData.int) := fun ns => ⟨fun x hx y hy => by
    obtain ⟨i, _, rfl⟩ := List.mem_map.mp hx
    obtain ⟨j, _, rfl⟩ := List.mem_map.mp hy
    rfl, fun x hx => by
    obtain ⟨i, _, rfl⟩ := List.mem_map.mp hx
    exact fun z => by cases z⟩
theorem depth_ints : ∀ ns : List Int, PyData.depthAll (ns.map PyData.int) = 0
  | [] => rfl
  | n :: r => by
    simp only [List.map_cons, PyData.depthAll, PyData.depth, depth_ints r]
    rfl
theorem dp_ints {K : PySem.W.Frag} {H : Hp} : ∀ ns : List Int, DpAll K H (ns.map V.int) (ns.map PyData.int)
  | [] => .nil
  | n :: r => .cons (.int n) (dp_ints r)
theorem maxL_fold : ∀ (r : List Int) (x : Int), maxL (x :: r) = r.foldl max x
  | [], x => rfl
  | y :: r, x => by
    have e1 : maxL (x :: y :: r) = max x (maxL (y :: r)) := rfl
    rw [e1, maxL_fold r y, List.foldl_cons]
    have key : ∀ (r : List Int) (a b : Int), max a (r.foldl max b) = r.foldl max (max a b) := by
      intro r
      induction r with
      | nil => intro a b; rfl
      | cons z r ih =>
        intro a b
        rw [List.foldl_cons, List.foldl_cons, ih]
        congr 1
        omega
    exact key r x y
/-- max(l, default=0) of ints -/
theorem max_dflt (C : Ctx G X) {pins : List (Addr × Obj)} {s : Shared} {σ : L2.St} {H : Hp} {Q : VK} {T : Addr → Prop} {d z : D} {x : V} {u : Value} {tk : Tok} (I : L2.Inv X pins σ H s) (rx : RelV x u) (hd : RepB G H (wo H T) d x) (hz : b1D .maxd d = some z) (q : VRes G T H z Q) :
    wpAny (model X.prog X.w) X.A (call (.builtin "max") [u] [(PySem.Str.ofString "default", .int 0 tk)]) (EP X pins σ Q) X.xe s := by
  obtain ⟨l, ns, rfl, h1, rfl⟩ := maxd_cases hz
  obtain ⟨a, vs, rfl, h2, h3⟩ := hd.lst
  obtain ⟨rfl, _⟩ := h3.asInts h1
  cases rx
  obtain ⟨its, rv, hl, _⟩ := I.list (SqL.of (K := X.K) h2)
  obtain ⟨as, hr⟩ := Dp.readsAll I (ns.map PyData.int) _ its (dp_ints ns) rv
  refine PySem.W.max_list_default (I.ok.hd C.calm) hl.isList (by rw [List.toList_toArray]; exact hr) (alike_ints ns) (by rw [depth_ints]; have := C.hu; omega) (fun h0 h' tk' k => ?_) fun y ys i v h' tk' bs e hv hrd k => ?_
  · have e : ns = [] := by simpa using h0
    subst e
    exact ⟨.int 0, H, I.kept k, ⟨_, rfl⟩, q.flat rfl⟩
  · cases ns with
    | nil => cases e
    | cons n r =>
      cases e
      rw [PySem.W.maxD_ints] at hrd
      have ev : ∃ t, v = .int (r.foldl max n) t := by
        cases hrd
        exact ⟨_, rfl⟩
      obtain ⟨t, rfl⟩ := ev
      rw [maxL_fold] at q
      exact ⟨.int _, H, I.kept k, ⟨_, rfl⟩, q.flat rfl⟩
end
end Pk
end
section
-- PkInv
set_option linter.all false
/-! What stands behind a value. -/
namespace Pk
open PySem
theorem desk_at {ρ : En} (h : deskAt ρ = true) : ρ[0]? = some (.p .desk) := by
  unfold deskAt at h
  split at h
  · assumption
  · cases h
section
variable {cl : Cl} {ρ : En} {s s' : Sh} {d : D} {a b c : ME}
theorem inv_bin {o : Bop} (h : evE cl (.bin o a b) ρ s = some (d, s')) : ∃ x s1 y, evE cl a ρ s = some (x, s1) ∧ evE cl b ρ s1 = some (y, s') ∧ binD o x y = some d := by
  simp only [evE] at h
  split at h
  · split at h
    · obtain ⟨z, ez, e⟩ := Option.map_eq_some_iff.mp h
      cases e
      exact ⟨_, _, _, ‹_›, ‹_›, ez⟩
    · cases h
  · cases h
theorem inv_cmp {o : Cop} (h : evE cl (.cmp o a b) ρ s = some (d, s')) : ∃ x s1 y, bor ρ s (evE cl a ρ s) a = some (x, s1) ∧ bor ρ s1 (evE cl b ρ s1) b = some (y, s') ∧ cmpD o x y = some d := by
  simp only [evE] at h
  split at h
  · split at h
    · obtain ⟨z, ez, e⟩ := Option.map_eq_some_iff.mp h
      cases e
      exact ⟨_, _, _, ‹_›, ‹_›, ez⟩
    · cases h
  · cases h
theorem inv_neg (h : evE cl (.neg a) ρ s = some (d, s')) : ∃ i, evE cl a ρ s = some (.int i, s') ∧ d = .int (-i) := by
  simp only [evE] at h
  split at h
  · cases h
    exact ⟨_, ‹_›, rfl⟩
  · cases h
theorem inv_and (h : evE cl (.and2 a b) ρ s = some (d, s')) : (∃ s1 c, evE cl a ρ s = some (.bl true, s1) ∧ evE cl b ρ s1 = some (.bl c, s') ∧ d = .bl c) ∨ (evE cl a ρ s = some (.bl false, s') ∧ d = .bl false) := by
  simp only [evE] at h
  split at h
  · split at h
    · cases h
      exact .inl ⟨_, _, ‹_›, ‹_›, rfl⟩
    · cases h
  · cases h
    exact .inr ⟨‹_›, rfl⟩
  · cases h
theorem inv_or (h : evE cl (.or2 a b) ρ s = some (d, s')) : (∃ s1 c, evE cl a ρ s = some (.bl false, s1) ∧ evE cl b ρ s1 = some (.bl c, s') ∧ d = .bl c) ∨ (evE cl a ρ s = some (.bl true, s') ∧ d = .bl true) := by
  simp only [evE] at h
  split at h
  · split at h
    · cases h
      exact .inl ⟨_, _, ‹_›, ‹_›, rfl⟩
    · cases h
  · cases h
    exact .inr ⟨‹_›, rfl⟩
  · cases h
theorem inv_not (h : evE cl (.not1 a) ρ s = some (d, s')) : ∃ c, evE cl a ρ s = some (.bl c, s') ∧ d = .bl (!c) := by
  simp only [evE] at h
  split at h
  · cases h
    exact ⟨_, ‹_›, rfl⟩
  · cases h
theorem inv_tup {l : MEs} (h : evE cl (.tup l) ρ s = some (d, s')) : ∃ ds, evEs cl l ρ s = some (ds, s') ∧ ds.length ≤ 100 ∧ d = .tup ds := by
  simp only [evE] at h
  split at h
  · split at h
    · cases h
      exact ⟨_, ‹_›, ‹_›, rfl⟩
    · cases h
  · cases h
theorem inv_lst {l : MEs} (h : evE cl (.lst l) ρ s = some (d, s')) : ∃ ds, evEs cl l ρ s = some (ds, s') ∧ ds.length ≤ 100 ∧ d = .lst ds := by
  simp only [evE] at h
  split at h
  · split at h
    · cases h
      exact ⟨_, ‹_›, ‹_›, rfl⟩
    · cases h
  · cases h
theorem inv_ix (h : evE cl (.ix a b) ρ s = some (d, s')) : ∃ x s1 y, bor ρ s (evE cl a ρ s) a = some (x, s1) ∧ evE cl b ρ s1 = some (y, s') ∧ ixD x y = some d := by
  simp only [evE] at h
  split at h
  · split at h
    · obtain ⟨z, ez, e⟩ := Option.map_eq_some_iff.mp h
      cases e
      exact ⟨_, _, _, ‹_›, ‹_›, ez⟩
    · cases h
  · cases h
theorem inv_sl {lo hi : MO} (h : evE cl (.sl a lo hi) ρ s = some (d, s')) : ∃ x s1 i s2 j, bor ρ s (evE cl a ρ s) a = some (x, s1) ∧ evO cl lo ρ s1 = some (i, s2) ∧ evO cl hi ρ s2 = some (j, s') ∧ slD x i j = some d := by
  simp only [evE] at h
  split at h
  · split at h
    · split at h
      · obtain ⟨z, ez, e⟩ := Option.map_eq_some_iff.mp h
        cases e
        exact ⟨_, _, _, _, _, ‹_›, ‹_›, ‹_›, ez⟩
      · cases h
    · cases h
  · cases h
theorem inv_call {f : Fn} {l : MEs} (h : evE cl (.call f l) ρ s = some (d, s')) : ∃ ds s1, evEs cl l ρ s = some (ds, s1) ∧ cl f (ds ++ (if ds.length = np f then [] else dfl f)) s1 = some (d, s') := by
  simp only [evE] at h
  split at h
  · exact ⟨_, _, ‹_›, h⟩
  · cases h
theorem inv_callv {i : Nat} {l : MEs} (h : evE cl (.callv i l) ρ s = some (d, s')) : ∃ f ds s1, ρ[i]? = some (.p (.fn f)) ∧ evEs cl l ρ s = some (ds, s1) ∧ ds.length = np f ∧ cl f ds s1 = some (d, s') := by
  simp only [evE] at h
  split at h
  · split at h
    · split at h
      · exact ⟨_, _, _, ‹_›, ‹_›, ‹_›, h⟩
      · cases h
    · cases h
  · cases h
theorem inv_meth {f : Fn} {l : MEs} (h : evE cl (.meth f a l) ρ s = some (d, s')) : ∃ s1 ds s2, evE cl a ρ s = some (.desk, s1) ∧ evEs cl l ρ s1 = some (ds, s2) ∧ cl f (.desk :: ds) s2 = some (d, s') := by
  simp only [evE] at h
  split at h
  · split at h
    · exact ⟨_, _, _, ‹_›, ‹_›, h⟩
    · cases h
  · cases h
theorem inv_b1 {o : B1} (h : evE cl (.b1 o a) ρ s = some (d, s')) : ∃ x, bor ρ s (evE cl a ρ s) a = some (x, s') ∧ b1D o x = some d := by
  simp only [evE] at h
  split at h
  · obtain ⟨z, ez, e⟩ := Option.map_eq_some_iff.mp h
    cases e
    exact ⟨_, ‹_›, ez⟩
  · cases h
theorem inv_b2 {o : B2} (h : evE cl (.b2 o a b) ρ s = some (d, s')) : ∃ x s1 y, evE cl a ρ s = some (x, s1) ∧ evE cl b ρ s1 = some (y, s') ∧ b2D o x y = some d := by
  simp only [evE] at h
  split at h
  · split at h
    · obtain ⟨z, ez, e⟩ := Option.map_eq_some_iff.mp h
      cases e
      exact ⟨_, _, _, ‹_›, ‹_›, ez⟩
    · cases h
  · cases h
theorem inv_lrng (h : evE cl (.lrng a) ρ s = some (d, s')) : ∃ n, evE cl a ρ s = some (.int n, s') ∧ small? n = true ∧ d = .lst (rngL 0 n) := by
  simp only [evE] at h
  split at h
  · split at h
    · cases h
      exact ⟨_, ‹_›, ‹_›, rfl⟩
    · cases h
  · cases h
theorem inv_sset (h : evE cl (.sset a) ρ s = some (d, s')) : ∃ x, evE cl a ρ s = some (x, s') ∧ ssetD x = some d := by
  simp only [evE] at h
  split at h
  · obtain ⟨z, ez, e⟩ := Option.map_eq_some_iff.mp h
    cases e
    exact ⟨_, ‹_›, ez⟩
  · cases h
theorem inv_isi {t : Ty} (h : evE cl (.isi a t) ρ s = some (d, s')) : ∃ x, evE cl a ρ s = some (x, s') ∧ ((∃ i, x = .int i) ∨ (∃ i, x = .bl i) ∨ (∃ i, x = .str i) ∨ (∃ i, x = .tup i)) ∧ d = .bl (isiD t x) := by
  simp only [evE] at h
  split at h
  · split at h
    · cases h
      exact ⟨_, ‹_›, .inl ⟨_, rfl⟩, rfl⟩
    · cases h
      exact ⟨_, ‹_›, .inr (.inl ⟨_, rfl⟩), rfl⟩
    · cases h
      exact ⟨_, ‹_›, .inr (.inr (.inl ⟨_, rfl⟩)), rfl⟩
    · cases h
      exact ⟨_, ‹_›, .inr (.inr (.inr ⟨_, rfl⟩)), rfl⟩
    · cases h
  · cases h
theorem inv_split (h : evE cl (.split a b) ρ s = some (d, s')) : ∃ x s1 y, evE cl a ρ s = some (x, s1) ∧ evE cl b ρ s1 = some (y, s') ∧ splitD x y = some d := by
  simp only [evE] at h
  split at h
  · split at h
    · obtain ⟨z, ez, e⟩ := Option.map_eq_some_iff.mp h
      cases e
      exact ⟨_, _, _, ‹_›, ‹_›, ez⟩
    · cases h
  · cases h
theorem inv_join (h : evE cl (.join a b) ρ s = some (d, s')) : ∃ x s1 y, evE cl a ρ s = some (x, s1) ∧ bor ρ s1 (evE cl b ρ s1) b = some (y, s') ∧ joinD x y = some d := by
  simp only [evE] at h
  split at h
  · split at h
    · obtain ⟨z, ez, e⟩ := Option.map_eq_some_iff.mp h
      cases e
      exact ⟨_, _, _, ‹_›, ‹_›, ez⟩
    · cases h
  · cases h
theorem inv_part (h : evE cl (.part a b) ρ s = some (d, s')) : ∃ x s1 y, evE cl a ρ s = some (x, s1) ∧ evE cl b ρ s1 = some (y, s') ∧ partD x y = some d := by
  simp only [evE] at h
  split at h
  · split at h
    · obtain ⟨z, ez, e⟩ := Option.map_eq_some_iff.mp h
      cases e
      exact ⟨_, _, _, ‹_›, ‹_›, ez⟩
    · cases h
  · cases h
theorem inv_fget (h : evE cl (.fget a) ρ s = some (d, s')) : ∃ k v, evE cl a ρ s = some (.str k, s') ∧ lookS k formsD = some v ∧ d = .str v := by
  simp only [evE] at h
  split at h
  · split at h
    · cases h
      exact ⟨_, _, ‹_›, ‹_›, rfl⟩
    · cases h
  · cases h
theorem inv_fix (h : evE cl (.fix a) ρ s = some (d, s')) : ∃ k v, evE cl a ρ s = some (.str k, s') ∧ lookS k formsD = some v ∧ d = .str v := by
  simp only [evE] at h
  split at h
  · split at h
    · cases h
      exact ⟨_, _, ‹_›, ‹_›, rfl⟩
    · cases h
  · cases h
theorem inv_disp {k1 v1 k2 v2 : List Nat} (h : evE cl (.disp k1 v1 k2 v2 a) ρ s = some (d, s')) : ∃ k, evE cl a ρ s = some (.str k, s') ∧ ((k = k1 ∧ d = .str v1) ∨ (k ≠ k1 ∧ k = k2 ∧ d = .str v2)) := by
  simp only [evE] at h
  split at h
  · split at h
    · cases h
      exact ⟨_, ‹_›, .inl ⟨‹_›, rfl⟩⟩
    · split at h
      · cases h
        exact ⟨_, ‹_›, .inr ⟨‹_›, ‹_›, rfl⟩⟩
      · cases h
  · cases h
theorem inv_fstr {p q : List Nat} (h : evE cl (.fstr p a q b) ρ s = some (d, s')) : ∃ i s1 j, evE cl a ρ s = some (.int i, s1) ∧ evE cl b ρ s1 = some (.int j, s') ∧ (0 ≤ i ∧ i ≤ 9) ∧ (0 ≤ j ∧ j ≤ 9) ∧ d = .str (p ++ [48 + i.toNat] ++ q ++ [48 + j.toNat]) := by
  simp only [evE] at h
  split at h
  · split at h
    · split at h
      · rename_i hc
        cases h
        exact ⟨_, _, _, ‹_›, ‹_›, hc.1, hc.2, rfl⟩
      · cases h
    · cases h
  · cases h
/-- one turn of a comprehension -/
def compF (cl : Cl) (ρ : En) (elt : ME) (t : MT) (c : ME) (x : D) (s : Sh) : Option (Option D × Sh) := match bindT t x (wipeE ρ (tsl t)) with
  | some ρ1 => match evE cl c ρ1 s with
    | some (.bl true, s2) => match evE cl elt ρ1 s2 with
      | some (d, s3) => some (some d, s3)
      | none => none
    | some (.bl false, s2) => some (none, s2)
    | _ => none
  | none => none
theorem inv_comp {tst : Bool} {t : MT} {it : MI} (h : evE cl (.comp tst a t it c) ρ s = some (d, s')) : ∃ xs s1 l, evI cl it ρ s = some (xs, s1) ∧ noOwn ρ (tsl t) = true ∧ xs.length ≤ 10000000 ∧ compL (compF cl ρ a t c) xs s1 = some (l, s') ∧ d = .lst l := by
  simp only [evE] at h
  split at h
  · split at h
    · rename_i hc
      split at h
      · rename_i e
        cases h
        exact ⟨_, _, _, ‹_›, hc.1, hc.2, e, rfl⟩
      · cases h
    · cases h
  · cases h
theorem inv_compF {t : MT} {x : D} {o : Option D} (h : compF cl ρ a t c x s = some (o, s')) : ∃ ρ1, bindT t x (wipeE ρ (tsl t)) = some ρ1 ∧
    ((∃ s1 d, evE cl c ρ1 s = some (.bl true, s1) ∧ evE cl a ρ1 s1 = some (d, s') ∧ o = some d) ∨ (evE cl c ρ1 s = some (.bl false, s') ∧ o = none)) := by
  unfold compF at h
  split at h
  · split at h
    · split at h
      · cases h
        exact ⟨_, ‹_›, .inl ⟨_, _, ‹_›, ‹_›, rfl⟩⟩
      · cases h
    · cases h
      exact ⟨_, ‹_›, .inr ⟨‹_›, rfl⟩⟩
    · cases h
  · cases h
theorem inv_compL {f : D → Sh → Option (Option D × Sh)} {x : D} {r l : List D} (h : compL f (x :: r) s = some (l, s')) : ∃ o s1 l', f x s = some (o, s1) ∧ compL f r s1 = some (l', s') ∧ l = (match o with | some d => d :: l' | none => l') := by
  simp only [compL] at h
  split at h
  · split at h
    · cases h
      exact ⟨_, _, _, ‹_›, ‹_›, rfl⟩
    · cases h
  · cases h
theorem inv_shNot (h : evE cl (.shNot a) ρ s = some (d, s')) : ∃ k, ρ[0]? = some (.p .desk) ∧ evE cl a ρ s = some (.str k, s') ∧ d = .bl (lookS k s').isNone := by
  simp only [evE] at h
  split at h
  · rename_i hd
    have hd := desk_at hd
    split at h
    · cases h
      exact ⟨_, hd, ‹_›, rfl⟩
    · cases h
  · cases h
theorem inv_shGet (h : evE cl (.shGet a) ρ s = some (d, s')) : ∃ k, ρ[0]? = some (.p .desk) ∧ evE cl a ρ s = some (.str k, s') ∧ lookS k s' = some d := by
  simp only [evE] at h
  split at h
  · rename_i hd
    have hd := desk_at hd
    split at h
    · obtain ⟨z, ez, e⟩ := Option.map_eq_some_iff.mp h
      cases e
      exact ⟨_, hd, ‹_›, ez⟩
    · cases h
  · cases h
theorem inv_cons {e : ME} {r : MEs} {ds : List D} (h : evEs cl (.cons e r) ρ s = some (ds, s')) : ∃ d s1 l, evE cl e ρ s = some (d, s1) ∧ evEs cl r ρ s1 = some (l, s') ∧ ds = d :: l := by
  simp only [evEs] at h
  split at h
  · split at h
    · cases h
      exact ⟨_, _, _, ‹_›, ‹_›, rfl⟩
    · cases h
  · cases h
theorem inv_ok {o : Option Int} (h : evO cl (.ok a) ρ s = some (o, s')) : ∃ i, evE cl a ρ s = some (.int i, s') ∧ o = some i := by
  simp only [evO] at h
  split at h
  · cases h
    exact ⟨_, ‹_›, rfl⟩
  · cases h
theorem inv_val {l : List D} (h : evI cl (.val a) ρ s = some (l, s')) : ∃ x, evE cl a ρ s = some (x, s') ∧ itemsD x = some l := by
  simp only [evI] at h
  split at h
  · obtain ⟨z, ez, e⟩ := Option.map_eq_some_iff.mp h
    cases e
    exact ⟨_, ‹_›, ez⟩
  · cases h
theorem inv_r1 {l : List D} (h : evI cl (.r1 a) ρ s = some (l, s')) : ∃ n, evE cl a ρ s = some (.int n, s') ∧ small? n = true ∧ l = rngL 0 n := by
  simp only [evI] at h
  split at h
  · split at h
    · cases h
      exact ⟨_, ‹_›, ‹_›, rfl⟩
    · cases h
  · cases h
theorem inv_r2 {l : List D} (h : evI cl (.r2 a b) ρ s = some (l, s')) : ∃ m s1 n, evE cl a ρ s = some (.int m, s1) ∧ evE cl b ρ s1 = some (.int n, s') ∧ small? m = true ∧ small? n = true ∧ l = rngL m n := by
  simp only [evI] at h
  split at h
  · split at h
    · split at h
      · rename_i hc
        cases h
        exact ⟨_, _, _, ‹_›, ‹_›, hc.1, hc.2, rfl⟩
      · cases h
    · cases h
  · cases h
theorem inv_r3 {l : List D} (h : evI cl (.r3 a b c) ρ s = some (l, s')) : ∃ m s1 n s2 k, evE cl a ρ s = some (.int m, s1) ∧ evE cl b ρ s1 = some (.int n, s2) ∧ evE cl c ρ s2 = some (.int k, s') ∧ small? m = true ∧ small? n = true ∧ 0 < k ∧ k < 1000 ∧ l = rngC m n k := by
  simp only [evI] at h
  split at h
  · split at h
    · split at h
      · split at h
        · rename_i hc
          cases h
          exact ⟨_, _, _, _, _, ‹_›, ‹_›, ‹_›, hc.1, hc.2.1, hc.2.2.1, hc.2.2.2, rfl⟩
        · cases h
      · cases h
    · cases h
  · cases h
theorem inv_zip {l : List D} (h : evI cl (.zip a b) ρ s = some (l, s')) : ∃ x s1 y, evE cl a ρ s = some (x, s1) ∧ evE cl b ρ s1 = some (y, s') ∧ ((∃ u v, x = .tup u ∧ y = .tup v ∧ l = zipD u v) ∨ (∃ u v, x = .str u ∧ y = .lst v ∧ l = zipD (u.map fun c => .str [c]) v)) := by
  simp only [evI] at h
  split at h
  · split at h
    · split at h
      · cases h
        exact ⟨_, _, _, ‹_›, ‹_›, .inl ⟨_, _, rfl, rfl, rfl⟩⟩
      · cases h
        exact ⟨_, _, _, ‹_›, ‹_›, .inr ⟨_, _, rfl, rfl, rfl⟩⟩
      · cases h
    · cases h
  · cases h
end
end Pk
end
section
-- PkSnd1
set_option linter.all false
set_option maxRecDepth 100000
/-! What each form of the text is read as: expressions. -/
namespace Pk
open PySem PySem.Spec PyProof.Rows L2

/-! ### weaker readings -/
section
variable {X : Cx}
theorem PE.imp {e : Expr} {t t' : TE} (h : PE X e t) (k : ∀ σ H Q, t' σ H Q → t σ H Q) : PE X e t' := ⟨fun pins s σ H Q I q => h.run pins s σ H Q I (k σ H Q q)⟩
theorem PT.imp {e : Expr} {t t' : TT} (h : PT X e t) (k : ∀ σ H Q, t' σ H Q → t σ H Q) : PT X e t' := ⟨fun pins s σ H Q I q => h.run pins s σ H Q I (k σ H Q q)⟩
theorem PA.imp {e : List Expr} {t t' : TA} (h : PA X e t) (k : ∀ σ H Q, t' σ H Q → t σ H Q) : PA X e t' := ⟨fun pos pins s σ H Q I q => h.run pos pins s σ H Q I (k σ H Q q)⟩
theorem PO.imp {e : Option Expr} {t t' : TO} (h : PO X e t) (k : ∀ σ H Q, t' σ H Q → t σ H Q) : PO X e t' := ⟨fun pins s σ H Q I q => h.run pins s σ H Q I (k σ H Q q)⟩
theorem PI.imp {tg e : Expr} {t t' : TI} (h : PI X tg e t) (k : ∀ σ H Q, t' σ H Q → t σ H Q) : PI X tg e t' := ⟨fun pins s σ H Q I q => h.run pins s σ H Q I (k σ H Q q)⟩
theorem PS.imp {e : Stmt} {t t' : TS} (h : PS X e t) (k : ∀ D σ H, t' D σ H → t D σ H) : PS X e t' := ⟨fun pins s σ H D I q => h.run pins s σ H D I (k D σ H q)⟩
theorem PSs.imp {e : List Stmt} {t t' : TS} (h : PSs X e t) (k : ∀ D σ H, t' D σ H → t D σ H) : PSs X e t' := ⟨fun pins s σ H D I q => h.run pins s σ H D I (k D σ H q)⟩
theorem PE.or {e : Expr} {t t' : TE} (h : PE X e t) (h' : PE X e t') : PE X e (fun σ H Q => t σ H Q ∨ t' σ H Q) := ⟨fun pins s σ H Q I q => q.elim (h.run pins s σ H Q I) (h'.run pins s σ H Q I)⟩
end

/-! ### what is wanted behind an expression -/
section
variable {G : Gx} {S T : Addr → Prop} {ρ : En} {σ : L2.St} {H H1 H' : Hp} {s s' : Sh} {d : D} {Q : VK}
def Wk (G : Gx) (S T : Addr → Prop) (s' : Sh) (d : D) (Q : VK) (H : Hp) : Prop := ∀ v H', Fr G H H' → Shf G S T H' s' → Rep G (wo H' T) d v → Q v H'
theorem Wk.res (q : Wk G S T s' d Q H) (sh : Shf G S T H s') : VRes G T H d Q := fun v H' e r => q v H' (.of e) (sh.same e) r
theorem Wk.fr (q : Wk G S T s' d Q H) (f : Fr G H H1) : Wk G S T s' d Q H1 := fun v H' f' => q v H' (f.trans f')
theorem Wk.now (q : Wk G S T s' d Q H) (sh : Shf G S T H s') {v : V} (r : Rep G (wo H T) d v) : Q v H := q v H .refl sh r
theorem Now.up (n : Now G S ρ σ H s) (f : Fr G H H') : Same (Pk.wo H (Tw S ρ σ)) (Pk.wo H' (Tw S ρ σ)) := Now.wo (ρ := ρ) (σ := σ) n.sh (fun _ z => .inl z) f
theorem Shf.ne {a : Addr} {o : HO} (h : Shf G S T H s) (e : H a = some o) (hd : ∀ kvs, o ≠ .dK kvs) : ∀ x, G.dk = some x → a ≠ x.2.2 := fun x e2 z => by
  unfold Shf at h
  rw [e2] at h
  obtain ⟨_, _, kvs, h3, _⟩ := h
  rw [z, h3] at e
  cases e
  exact hd _ rfl
theorem RepB.up (n : Now G S ρ σ H s) (f : Fr G H H') {v : V} (h : RepB G H (Pk.wo H (Tw S ρ σ)) d v) : RepB G H' (Pk.wo H' (Tw S ρ σ)) d v := by
  have w := n.up f
  cases d with
  | lst l =>
    obtain ⟨a, vs, h1, h2, h3⟩ := h
    exact ⟨a, vs, h1, f a _ (n.sh.ne h2 fun kvs z => by cases z) h2, RepL.mono w l h3⟩
  | _ => exact Rep.mono w _ h
theorem Shf.inS (h : Shf G S T H s) : ∀ x, G.dk = some x → S x.2.2 := fun x e => by
  unfold Shf at h
  rw [e] at h
  exact h.1
/-- a callee's view of the shelf -/
theorem Shf.inn (h : Shf G S T H s) (hT : ∀ a, S a → T a) : Shf G T T H s := by
  unfold Shf at h ⊢
  split
  · rename_i q
    rw [q] at h
    exact h
  · rename_i a0 dx d0 q
    rw [q] at h
    obtain ⟨h1, h2, h3⟩ := h
    exact ⟨hT _ h1, h2, h3⟩
theorem Shf.back (h0 : Shf G S T H s) (h : Shf G T T H' s') : Shf G S T H' s' := by
  unfold Shf at h h0 ⊢
  split
  · rename_i q
    rw [q] at h
    exact h
  · rename_i a0 dx d0 q
    rw [q] at h h0
    exact ⟨h0.1, h.2⟩
end
section
variable (G : Gx) (cl : Cl)
def wd (m : ME) : TE := fun σ H Q => ∃ S ρ s d s', Now G S ρ σ H s ∧ evE cl m ρ s = some (d, s') ∧ Wk G S (Tw S ρ σ) s' d Q H
def wdB (m : ME) : TE := fun σ H Q => ∃ S ρ s d s', Now G S ρ σ H s ∧ bor ρ s (evE cl m ρ s) m = some (d, s') ∧ ∀ v H', Fr G H H' → Shf G S (Tw S ρ σ) H' s' → RepB G H' (wo H' (Tw S ρ σ)) d v → Q v H'
def wdT (m : ME) : TT := fun σ H Q => ∃ S ρ s b s', Now G S ρ σ H s ∧ evE cl m ρ s = some (.bl b, s') ∧ ∀ H', Fr G H H' → Shf G S (Tw S ρ σ) H' s' → Q b H'
def wdA (m : MEs) : TA := fun σ H Q => ∃ S ρ s ds s', Now G S ρ σ H s ∧ evEs cl m ρ s = some (ds, s') ∧ ∀ vs H', Fr G H H' → Shf G S (Tw S ρ σ) H' s' → RepL G (wo H' (Tw S ρ σ)) ds vs → Q vs H'
def wdO (m : MO) : TO := fun σ H Q => ∃ S ρ s o s', Now G S ρ σ H s ∧ evO cl m ρ s = some (o, s') ∧ ∀ H', Fr G H H' → Shf G S (Tw S ρ σ) H' s' → Q o H'
/-- what a def promises -/
def spec (f : Fn) : Sp := fun vs H Q _ => ∃ T ds s d s', Dom T H ∧ Shf G T T H s ∧ RepL G (wo H T) ds vs ∧ cl f ds s = some (d, s') ∧ Wk G T T s' d Q H
def isM (f : Fn) : Bool := (fnAt f).2.isSome
def bnames : List PySem.Str := ["len", "int", "str", "tuple", "list", "sorted", "all", "max", "min", "dict", "set", "isinstance", "range", "zip", "bool"]
/-- what the written part holds -/
structure Gw (K : PySem.W.Frag) (mg : PySem.Str → Option Value) (w : World) : Prop where
  glo : ∀ g, ∃ v u, mg (globStr g) = some u ∧ RelV v u ∧ ∀ H, Rep G H (globD g) v
  fnm : ∀ f, (fnAt f).2 = none → mg (fnAt f).1 = some (.ref (G.fa f))
  bl : ∀ x ∈ bnames, mg x = none
  forms : ∃ a es n, mg "FORMS" = some (.ref a) ∧ KDict K w a es n ∧ ∀ k v, lookS k formsD = some v → ∃ u, PySem.W.nsIn K a ⟨k.toArray⟩ = some (some u) ∧ RelV (.str ⟨v.toArray⟩) u
  cls : Cls K G.C
  sh : NoAttr K G.C "shelf"
  mth : ∀ f m, (fnAt f).2 = some m → Meth K G.C m (G.fa f)
/-- a def of the module, its last argument left out (None) -/
def HeldD (P : Program) (w : World) (K : PySem.W.Frag) (mg : PySem.Str → Option Value) (base : Heap) (k : Nat) (f : Addr) (sp : Sp) : Prop :=
  ∃ (fd : FuncData) (ps : List PySem.Str), FnOk P w K mg base (fun _ _ _ _ _ _ => False) k f fd ps sp ∧ PySem.W.keepIn K (.ref f) = true ∧ Binds K fd ps [.none]
structure Gd (k : Nat) (sc : Scope) (N : List PySem.Str) (X : Cx) : Prop where
  C : Ctx G X
  W : Gw G X.K X.mg X.w
  nm : X.N = N
  nd : N.Nodup
  scp : X.env.scope = sc
  xe : X.xe = fun _ _ => False
  room : Room k X.A
  hold : ∀ f, Held X.prog X.w X.K X.mg X.base k (G.fa f) (spec G cl f)
  holdD : ∀ f, dfl f ≠ [] → HeldD X.prog X.w X.K X.mg X.base k (G.fa f) (spec G cl f)
end

section
variable {G : Gx} {cl : Cl} {k : Nat} {sc : Scope} {N : List PySem.Str} {X : Cx}
/-! ### names, constants -/
def vr (sc : Scope) (N : List PySem.Str) (i : Nat) (x : PySem.Str) : Bool :=
  decide (N[i]? = some x) && (match sc.names.lookup x with | some .local => true | some .cell => true | some .free => true | _ => false) && (!(x == ("__debug__" : PySem.Str))) && (!(x == ("__classdict__" : PySem.Str)))
theorem vr_pe (g : Gd G cl k sc N X) {i : Nat} {x : PySem.Str} {pos : Pos} (h : vr sc N i x = true) : PE X (.Name x pos) (tVar i) := by
  unfold vr at h
  simp only [Bool.and_eq_true, decide_eq_true_eq, Bool.not_eq_true'] at h
  obtain ⟨⟨⟨h1, h2⟩, h3⟩, h4⟩ := h
  refine pe_var (by rw [g.nm]; exact h1) ?_ h3 h4
  rw [g.scp]
  unfold Vis
  split at h2 <;> simp_all
theorem vr_vis (g : Gd G cl k sc N X) {i : Nat} {x : PySem.Str} (h : vr sc N i x = true) : X.N[i]? = some x ∧ Vis X.env.scope x ∧ (x == ("__debug__" : PySem.Str)) = false ∧ (x == ("__classdict__" : PySem.Str)) = false := by
  unfold vr at h
  simp only [Bool.and_eq_true, decide_eq_true_eq, Bool.not_eq_true'] at h
  obtain ⟨⟨⟨h1, h2⟩, h3⟩, h4⟩ := h
  refine ⟨by rw [g.nm]; exact h1, ?_, h3, h4⟩
  rw [g.scp]
  unfold Vis
  split at h2 <;> simp_all
theorem s_var (g : Gd G cl k sc N X) {i : Nat} {x : PySem.Str} {pos : Pos} (h : vr sc N i x = true) : PE X (.Name x pos) (wd G cl (.var i)) := by
  refine PE.imp (vr_pe g h) fun σ H Q ⟨S, ρ, s, d, s', n, e, q⟩ => ?_
  unfold evE at e
  split at e
  · rename_i d' hd
    cases e
    obtain ⟨v, h1, h2⟩ := n.env.pur i d hd
    exact ⟨v, h1, q.now n.sh h2⟩
  · cases e
theorem s_varB (g : Gd G cl k sc N X) {i : Nat} {x : PySem.Str} {pos : Pos} (h : vr sc N i x = true) : PE X (.Name x pos) (wdB G cl (.var i)) := by
  refine PE.imp (vr_pe g h) fun σ H Q ⟨S, ρ, s, d, s', n, e, q⟩ => ?_
  unfold bor at e
  simp only at e
  split at e
  · rename_i l hd
    cases e
    obtain ⟨a, h1, vs, h2, h3⟩ := n.env.own i _ hd
    exact ⟨_, h1, q _ _ .refl n.sh ⟨a, vs, rfl, h2, h3⟩⟩
  · unfold evE at e
    split at e
    · rename_i d' hd
      cases e
      obtain ⟨v, h1, h2⟩ := n.env.pur i d hd
      exact ⟨v, h1, q _ _ .refl n.sh (h2.b (wo_same _ _))⟩
    · cases e
/-- a value that is there, as one that is read at once -/
theorem wdB_of {m : ME} {e : Expr} (h : PE X e (wd G cl m)) (hm : ∀ i, m ≠ .var i) : PE X e (wdB G cl m) := by
  refine PE.imp h fun σ H Q ⟨S, ρ, s, d, s', n, e, q⟩ => ?_
  have e0 : bor ρ s (evE cl m ρ s) m = evE cl m ρ s := by
    cases m <;> first | rfl | exact absurd rfl (hm _)
  rw [e0] at e
  exact ⟨S, ρ, s, d, s', n, e, fun v H' f h r => q v H' f h (r.b (wo_same _ _))⟩
/-- of a test's value -/
theorem wdT_of {m : ME} {e : Expr} (h : PE X e (wd G cl m)) (he : ∀ whole, isTrue e X.env whole = (do let v ← whole; standAt e.pos; holding [v] (truthy v))) : PT X e (wdT G cl m) := by
  refine PT.imp (pt_val h he) fun σ H Q ⟨S, ρ, s, b, s', n, e, q⟩ => ?_
  refine ⟨S, ρ, s, .bl b, s', n, e, fun v H' f h r => ⟨b, ?_, q H' f h⟩⟩
  unfold Rep at r
  exact r
theorem s_int {n : Int} {j : Nat} {pos : Pos} : PE X (.Constant (.int n) j pos) (wd G cl (.int n)) := by
  refine PE.imp pe_int fun σ H Q ⟨S, ρ, s, d, s', n, e, q⟩ => ?_
  cases e
  exact q.now n.sh rfl
theorem s_str {x : PySem.Str} {l : List Nat} {j : Nat} {pos : Pos} (h : x.cps.toList = l) : PE X (.Constant (.str x) j pos) (wd G cl (.str l)) := by
  refine PE.imp pe_str fun σ H Q ⟨S, ρ, s, d, s', n, e, q⟩ => ?_
  cases e
  refine q.now n.sh ?_
  unfold Rep
  rw [← h]
theorem s_bl {b : Bool} {j : Nat} {pos : Pos} : PE X (.Constant (.bool b) j pos) (wd G cl (.bl b)) := by
  refine PE.imp pe_bl fun σ H Q ⟨S, ρ, s, d, s', n, e, q⟩ => ?_
  cases e
  exact q.now n.sh rfl
theorem s_non {j : Nat} {pos : Pos} : PE X (.Constant .none j pos) (wd G cl .non) := by
  refine PE.imp pe_non fun σ H Q ⟨S, ρ, s, d, s', n, e, q⟩ => ?_
  cases e
  exact q.now n.sh rfl
def glC (sc : Scope) (x : PySem.Str) : Bool := (match sc.names.lookup x with | some .globalImplicit => true | _ => false) && !(x == ("__debug__" : PySem.Str))
theorem gl_of (g : Gd G cl k sc N X) {x : PySem.Str} (h : glC sc x = true) : Gl X x ∧ (x == ("__debug__" : PySem.Str)) = false := by
  unfold glC at h
  simp only [Bool.and_eq_true, Bool.not_eq_true'] at h
  refine ⟨?_, h.2⟩
  show X.env.scope.names.lookup x = _
  rw [g.scp]
  split at h <;> simp_all
theorem s_glo (g : Gd G cl k sc N X) {gl : Glob} {x : PySem.Str} {pos : Pos} (h : glC sc x = true) (hx : x = globStr gl) : PE X (.Name x pos) (wd G cl (.glo gl)) := by
  obtain ⟨v, u, h1, h2, h3⟩ := g.W.glo gl
  refine PE.imp (pe_glob (v := v) (gl_of g h).1 (by rw [hx]; exact h1) h2 (gl_of g h).2) fun σ H Q ⟨S, ρ, s, d, s', n, e, q⟩ => ?_
  cases e
  exact q.now n.sh (h3 _)
theorem s_fnv (g : Gd G cl k sc N X) {f : Fn} {x : PySem.Str} {pos : Pos} (h : glC sc x = true) (hx : fnAt f = (x, none)) : PE X (.Name x pos) (wd G cl (.fnv f)) := by
  have h1 := g.W.fnm f (by rw [hx])
  rw [hx] at h1
  refine PE.imp (pe_glob (v := .ref (G.fa f)) (gl_of g h).1 h1 rfl (gl_of g h).2) fun σ H Q ⟨S, ρ, s, d, s', n, e, q⟩ => ?_
  cases e
  exact q.now n.sh rfl
/-! ### two expressions in a row -/
theorem s_bin (g : Gd G cl k sc N X) {o : Bop} {a b : ME} {A B : Expr} {pos : Pos} (ha : PE X A (wd G cl a)) (hb : PE X B (wd G cl b)) : PE X (.BinOp A (bopOf o) B pos) (wd G cl (.bin o a b)) := by
  refine PE.imp (pe_op (op_bin g.C o) ha hb) fun σ H Q ⟨S, ρ, s, d, s', n, e, q⟩ => ?_
  obtain ⟨x, s1, y, e1, e2, ez⟩ := inv_bin e
  refine ⟨S, ρ, s, x, s1, n, e1, fun v H1 f1 h1 r1 => ⟨S, ρ, s1, y, s', n.fr f1 h1, e2, fun u H2 f2 h2 r2 => ?_⟩⟩
  have n1 := n.fr f1 h1
  have n2 := n1.fr f2 h2
  exact ⟨_, x, y, d, n2.env.domT, (Rep.mono (n1.up f2) x r1).b (wo_same _ _), r2.b (wo_same _ _), ez, (q.fr (f1.trans f2)).res h2⟩
theorem s_cmp (g : Gd G cl k sc N X) {o : Cop} {a b : ME} {A B : Expr} {pos : Pos} (ha : PE X A (wdB G cl a)) (hb : PE X B (wdB G cl b)) (hm : behindInMarks (copOf o) B = false) :
    PE X (.Compare A [copOf o] [B] pos) (wd G cl (.cmp o a b)) ∧ PT X (.Compare A [copOf o] [B] pos) (wdT G cl (.cmp o a b)) := by
  have key : ∀ σ H Q, wd G cl (.cmp o a b) σ H Q → tOp (rC G o) (wdB G cl a) (wdB G cl b) σ H Q := by
    rintro σ H Q ⟨S, ρ, s, d, s', n, e, q⟩
    obtain ⟨x, s1, y, e1, e2, ez⟩ := inv_cmp e
    refine ⟨S, ρ, s, x, s1, n, e1, fun v H1 f1 h1 r1 => ⟨S, ρ, s1, y, s', n.fr f1 h1, e2, fun u H2 f2 h2 r2 => ?_⟩⟩
    have n1 := n.fr f1 h1
    have n2 := n1.fr f2 h2
    exact ⟨_, x, y, d, n2.env.domT, RepB.up n1 f2 r1, r2, ez, (q.fr (f1.trans f2)).res h2⟩
  refine ⟨PE.imp (pe_cmpR (op_cmp g.C o) ha hb hm) key, PT.imp (pt_cmpR (op_cmp g.C o) ha hb hm) fun σ H Q ⟨S, ρ, s, b, s', n, e, q⟩ => ?_⟩
  refine key σ H _ ⟨S, ρ, s, .bl b, s', n, e, fun v H' f h r => ⟨b, ?_, q H' f h⟩⟩
  unfold Rep at r
  exact r
theorem s_neg (g : Gd G cl k sc N X) {a : ME} {A : Expr} {pos : Pos} (ha : PE X A (wd G cl a)) : PE X (.UnaryOp .USub A pos) (wd G cl (.neg a)) := by
  refine PE.imp (pe_un un_neg ha) fun σ H Q ⟨S, ρ, s, d, s', n, e, q⟩ => ?_
  obtain ⟨i, e1, rfl⟩ := inv_neg e
  exact ⟨S, ρ, s, _, s', n, e1, fun v H1 f1 h1 r1 => ⟨i, r1, (q.fr f1).now h1 rfl⟩⟩

/-! ### and, or, not -/
theorem repBl {H : Hp} {b : Bool} {v : V} (h : Rep G H (.bl b) v) : v = .bl b := h
theorem s_and {a b : ME} {A B : Expr} {rest : List Expr} {pos : Pos} (ha : PE X A (wd G cl a)) (hb : PE X (.BoolOp .And (B :: rest) pos) (wd G cl b)) : PE X (.BoolOp .And (A :: B :: rest) pos) (wd G cl (.and2 a b)) := by
  refine PE.imp (pe_and ha hb) fun σ H Q ⟨S, ρ, s, d, s', n, e, q⟩ => ?_
  rcases inv_and e with ⟨s1, c, e1, e2, rfl⟩ | ⟨e1, rfl⟩
  · refine ⟨S, ρ, s, _, s1, n, e1, fun v H1 f1 h1 r1 => ⟨true, r1, ?_⟩⟩
    rw [if_pos rfl]
    exact ⟨S, ρ, s1, _, s', n.fr f1 h1, e2, q.fr f1⟩
  · refine ⟨S, ρ, s, _, s', n, e1, fun v H1 f1 h1 r1 => ⟨false, r1, ?_⟩⟩
    rw [if_neg (by decide)]
    exact (q.fr f1).now h1 rfl
theorem s_or {a b : ME} {A B : Expr} {rest : List Expr} {pos : Pos} (ha : PE X A (wd G cl a)) (hb : PE X (.BoolOp .Or (B :: rest) pos) (wd G cl b)) : PE X (.BoolOp .Or (A :: B :: rest) pos) (wd G cl (.or2 a b)) := by
  refine PE.imp (pe_or ha hb) fun σ H Q ⟨S, ρ, s, d, s', n, e, q⟩ => ?_
  rcases inv_or e with ⟨s1, c, e1, e2, rfl⟩ | ⟨e1, rfl⟩
  · refine ⟨S, ρ, s, _, s1, n, e1, fun v H1 f1 h1 r1 => ⟨false, r1, ?_⟩⟩
    rw [if_neg (by decide)]
    exact ⟨S, ρ, s1, _, s', n.fr f1 h1, e2, q.fr f1⟩
  · refine ⟨S, ρ, s, _, s', n, e1, fun v H1 f1 h1 r1 => ⟨true, r1, ?_⟩⟩
    rw [if_pos rfl]
    exact (q.fr f1).now h1 rfl
theorem s_andT {a b : ME} {A B : Expr} {rest : List Expr} {pos : Pos} (ha : PT X A (wdT G cl a)) (hb : PW X (.BoolOp .And (B :: rest) pos) (wdT G cl b)) : PW X (.BoolOp .And (A :: B :: rest) pos) (wdT G cl (.and2 a b)) := by
  refine ⟨fun wh pins s σ H Q I h => (pw_and ha hb).run wh pins s σ H Q I ?_⟩
  obtain ⟨S, ρ, s, d, s', n, e, q⟩ := h
  rcases inv_and e with ⟨s1, c, e1, e2, e3⟩ | ⟨e1, e3⟩
  · cases e3
    refine ⟨S, ρ, s, _, s1, n, e1, fun H1 f1 h1 => ?_⟩
    show wdT G cl b σ H1 Q
    exact ⟨S, ρ, s1, _, s', n.fr f1 h1, e2, fun H2 f2 => q H2 (f1.trans f2)⟩
  · cases e3
    refine ⟨S, ρ, s, _, s', n, e1, fun H1 f1 h1 => ?_⟩
    exact q H1 f1 h1
theorem s_orT {a b : ME} {A B : Expr} {rest : List Expr} {pos : Pos} (ha : PT X A (wdT G cl a)) (hb : PW X (.BoolOp .Or (B :: rest) pos) (wdT G cl b)) : PW X (.BoolOp .Or (A :: B :: rest) pos) (wdT G cl (.or2 a b)) := by
  refine ⟨fun wh pins s σ H Q I h => (pw_or ha hb).run wh pins s σ H Q I ?_⟩
  obtain ⟨S, ρ, s, d, s', n, e, q⟩ := h
  rcases inv_or e with ⟨s1, c, e1, e2, e3⟩ | ⟨e1, e3⟩
  · cases e3
    refine ⟨S, ρ, s, _, s1, n, e1, fun H1 f1 h1 => ?_⟩
    show wdT G cl b σ H1 Q
    exact ⟨S, ρ, s1, _, s', n.fr f1 h1, e2, fun H2 f2 => q H2 (f1.trans f2)⟩
  · cases e3
    refine ⟨S, ρ, s, _, s', n, e1, fun H1 f1 h1 => ?_⟩
    exact q H1 f1 h1
theorem s_not {a : ME} {A : Expr} {pos : Pos} (ha : PE X A (wd G cl a)) : PE X (.UnaryOp .Not A pos) (wd G cl (.not1 a)) := by
  refine PE.imp (pe_not ha) fun σ H Q ⟨S, ρ, s, d, s', n, e, q⟩ => ?_
  obtain ⟨c, e1, rfl⟩ := inv_not e
  exact ⟨S, ρ, s, _, s', n, e1, fun v H1 f1 h1 r1 => ⟨c, r1, (q.fr f1).now h1 rfl⟩⟩
theorem s_notT {a : ME} {A : Expr} {pos : Pos} (ha : PT X A (wdT G cl a)) : PT X (.UnaryOp .Not A pos) (wdT G cl (.not1 a)) := by
  refine PT.imp (pt_not ha) fun σ H Q ⟨S, ρ, s, d, s', n, e, q⟩ => ?_
  obtain ⟨c, e1, e2⟩ := inv_not e
  cases e2
  exact ⟨S, ρ, s, _, s', n, e1, q⟩

/-! ### argument lists, displays -/
def plainA : Expr → Bool
  | .Starred _ _ => false
  | _ => true
theorem plain_star {e : Expr} {es : List Expr} {env : PySem.Env} (h : plainA e = true) : starEach (e :: es) env = (false, eval e env) :: starEach es env := by
  cases e <;> first | rfl | cases h
theorem plains_any {pos : Pos} {env : PySem.Env} : ∀ {es : List Expr}, es.all plainA = true → (backTo pos (starEach es env)).any (·.1) = false
  | [], _ => rfl
  | e :: es, h => by
    simp only [List.all_cons, Bool.and_eq_true] at h
    rw [plain_star h.1]
    show (false || (backTo pos (starEach es env)).any (·.1)) = false
    rw [plains_any h.2]
    rfl
theorem s_nil : PA X [] (wdA G cl .nil) := by
  refine PA.imp pa_nil fun σ H Q ⟨S, ρ, s, ds, s', n, e, q⟩ => ?_
  cases e
  exact q _ _ .refl n.sh RepL.nil
theorem s_cons {a : ME} {l : MEs} {A : Expr} {L : List Expr} (hp : plainA A = true) (ha : PE X A (wd G cl a)) (hl : PA X L (wdA G cl l)) : PA X (A :: L) (wdA G cl (.cons a l)) := by
  refine PA.imp (pa_cons ha hl (plain_star hp)) fun σ H Q ⟨S, ρ, s, ds, s', n, e, q⟩ => ?_
  obtain ⟨d, s1, r, e1, e2, rfl⟩ := inv_cons e
  refine ⟨S, ρ, s, d, s1, n, e1, fun v H1 f1 h1 r1 => ⟨S, ρ, s1, r, s', n.fr f1 h1, e2, fun vs H2 f2 h2 r2 => q _ _ (f1.trans f2) h2 (RepL.cons (Rep.mono ((n.fr f1 h1).up f2) d r1) r2)⟩⟩
theorem le100 {n : Nat} (h : n ≤ 100) : n ≤ sizeLine := by rw [sizeLine_eq]; omega
theorem s_tup {l : MEs} {L : List Expr} {j : Nat} {pos : Pos} (hl : PA X L (wdA G cl l)) : PE X (.Tuple L j pos) (wd G cl (.tup l)) := by
  refine PE.imp (pe_tup hl) fun σ H Q ⟨S, ρ, s, d, s', n, e, q⟩ => ?_
  obtain ⟨ds, e1, h100, rfl⟩ := inv_tup e
  refine ⟨S, ρ, s, ds, s', n, e1, fun vs H1 f1 h1 r1 => ⟨by rw [← r1.len]; exact le100 h100, ?_⟩⟩
  exact ((q.fr f1).res h1).tup (n.fr f1 h1).env.domT r1
theorem s_lst {l : MEs} {L : List Expr} {pos : Pos} (hl : PA X L (wdA G cl l)) : PE X (.List L pos) (wd G cl (.lst l)) := by
  refine PE.imp (pe_lst hl) fun σ H Q ⟨S, ρ, s, d, s', n, e, q⟩ => ?_
  obtain ⟨ds, e1, h100, rfl⟩ := inv_lst e
  refine ⟨S, ρ, s, ds, s', n, e1, fun vs H1 f1 h1 r1 => ⟨by rw [← r1.len]; exact le100 h100, ?_⟩⟩
  exact ((q.fr f1).res h1).lst (n.fr f1 h1).env.domT r1

/-! ### places, slices -/
def plainI : Expr → Bool
  | .Slice _ _ _ _ => false
  | _ => true
theorem plainI_ix {e : Expr} (h : plainI e = true) : PlainIx e := fun o i => by
  cases e <;> first | rfl | cases h
theorem sK_inj {x k : List Nat} (z : sK x = sK k) : x = k := by
  have z2 : (⟨x.toArray⟩ : PySem.Str) = ⟨k.toArray⟩ := Sum.inr.inj z
  have z3 := congrArg (fun y : PySem.Str => y.cps.toList) z2
  simpa using z3
theorem valV_dicV {l : List (List Nat × Int)} {k : List Nat} {n : Int} (h : lookS k l = some n) : valV (dicV l) (sK k) = some (.int n) := by
  induction l with
  | nil => cases h
  | cons p r ih =>
    obtain ⟨x, u⟩ := p
    unfold lookS at h
    split at h
    · rename_i e
      cases h
      exact valV_pos (p := (sK x, V.int n)) (by rw [e])
    · rename_i e
      exact (valV_neg (p := (sK x, V.int u)) (fun z => e (sK_inj z))).trans (ih h)
end
end Pk
end
section
-- PkSnd2
set_option linter.all false
set_option maxRecDepth 100000
/-! What each form of the text is read as: places, calls, texts. -/
namespace Pk
open PySem PySem.Spec PyProof.Rows L2
section
variable {G : Gx} {cl : Cl} {k : Nat} {sc : Scope} {N : List PySem.Str} {X : Cx}
/-! ### places, slices -/
def rIx (G : Gx) : R2 := fun x y H Q => ∃ T d e z, Dom T H ∧ RepB G H (wo H T) d x ∧ RepB G H (wo H T) e y ∧ ixD d e = some z ∧ VRes G T H z Q
theorem hu1 (C : Ctx G X) : X.A.units + 1 < cLine := by have := C.hu; omega
theorem ix_all (C : Ctx G X) : IxR X (rIx G) := by
  intro value slice pins s σ H x y v u Q I rx ry h hs
  obtain ⟨T, d, e, z, hT, hd, he, hz, q⟩ := h
  by_cases hn : ∀ l, d ≠ .dic l
  · exact ix_any C value slice pins s σ H x y v u Q I rx ry ⟨T, d, e, z, hT, hd, he, hz, hn, q⟩ hs
  · obtain ⟨l, hn⟩ := Classical.not_forall.mp hn
    have hn := Classical.not_not.mp hn
    subst hn
    rcases ixD_cases hz with ⟨l', i, z, _⟩ | ⟨l', i, z, _⟩ | ⟨l', i, n, z, _⟩ | ⟨l', i, c, z, _⟩ | ⟨l', k', n, hl, rfl, h1, rfl⟩
    · cases z
    · cases z
    · cases z
    · cases z
    · cases hl
      obtain ⟨a, rfl, h2⟩ : ∃ a, x = .ref a ∧ wo H T a = some (.dK (dicV l)) := hd
      have ey := he.str
      subst ey
      cases rx
      have g : DGet H a (kV (sK k')) (some (.int n)) := .inl ⟨_, _, .inl ((wo_same H T) _ _ h2), rfl, (valV_dicV h1).symm⟩
      exact tail_any (dict_typeIs I g) slot_dict_getitem.lookup (d_getItem (hu1 C) I g ry fun w' s3 I3 rw' => ⟨.int n, H, I3, rw', q.flat rfl⟩) hs
theorem s_ix (g : Gd G cl k sc N X) {a b : ME} {A B : Expr} {pos : Pos} (ha : PE X A (wdB G cl a)) (hb : PE X B (wd G cl b)) (hi : plainI B = true) : PE X (.Subscript A B pos) (wd G cl (.ix a b)) := by
  refine PE.imp (pe_ix (ix_all g.C) ha hb (plainI_ix hi)) fun σ H Q ⟨S, ρ, s, d, s', n, e, q⟩ => ?_
  obtain ⟨x, s1, y, e1, e2, ez⟩ := inv_ix e
  refine ⟨S, ρ, s, x, s1, n, e1, fun v H1 f1 h1 r1 => ⟨S, ρ, s1, y, s', n.fr f1 h1, e2, fun u H2 f2 h2 r2 => ?_⟩⟩
  have n1 := n.fr f1 h1
  have n2 := n1.fr f2 h2
  exact ⟨_, x, y, d, n2.env.domT, RepB.up n1 f2 r1, r2.b (wo_same _ _), ez, (q.fr (f1.trans f2)).res h2⟩
theorem s_no : PO X none (wdO G cl .no) := by
  refine PO.imp po_none fun σ H Q ⟨S, ρ, s, o, s', n, e, q⟩ => ?_
  cases e
  exact q _ .refl n.sh
theorem s_ok {a : ME} {A : Expr} (ha : PE X A (wd G cl a)) : PO X (some A) (wdO G cl (.ok a)) := by
  refine PO.imp (po_some ha) fun σ H Q ⟨S, ρ, s, o, s', n, e, q⟩ => ?_
  obtain ⟨i, e1, rfl⟩ := inv_ok e
  exact ⟨S, ρ, s, _, s', n, e1, fun v H1 f1 h1 r1 => ⟨i, r1, q _ f1 h1⟩⟩
theorem s_sl (g : Gd G cl k sc N X) {a : ME} {lo hi : MO} {A : Expr} {L U : Option Expr} {pos pos' : Pos} (ha : PE X A (wdB G cl a)) (hl : PO X L (wdO G cl lo)) (hh : PO X U (wdO G cl hi)) :
    PE X (.Subscript A (.Slice L U none pos') pos) (wd G cl (.sl a lo hi)) := by
  refine PE.imp (pe_slice (sl_any g.C) ha hl hh) fun σ H Q ⟨S, ρ, s, d, s', n, e, q⟩ => ?_
  obtain ⟨x, s1, i, s2, j, e1, e2, e3, ez⟩ := inv_sl e
  refine ⟨S, ρ, s, x, s1, n, e1, fun v H1 f1 h1 r1 => ⟨S, ρ, s1, i, s2, n.fr f1 h1, e2, fun H2 f2 h2 => ⟨S, ρ, s2, j, s', (n.fr f1 h1).fr f2 h2, e3, fun H3 f3 h3 => ?_⟩⟩⟩
  have n1 := n.fr f1 h1
  have n2 := n1.fr f2 h2
  have n3 := n2.fr f3 h3
  exact ⟨_, x, d, n3.env.domT, RepB.up n2 f3 (RepB.up n1 f2 r1), ez, (q.fr ((f1.trans f2).trans f3)).res h3⟩

/-! ### calls -/
theorem spec_of {f : Fn} {S : Addr → Prop} {ρ : En} {σ : L2.St} {H H1 : Hp} {s s1 s' : Sh} {ds : List D} {d : D} {Q : VK} {E : XK} {vs : List V} (n : Now G S ρ σ H s) (f1 : Fr G H H1) (h1 : Shf G S (Tw S ρ σ) H1 s1) (r : RepL G (wo H1 (Tw S ρ σ)) ds vs)
    (e : cl f ds s1 = some (d, s')) (q : Wk G S (Tw S ρ σ) s' d Q H) : spec G cl f vs H1 Q E :=
  ⟨_, ds, s1, d, s', (n.fr f1 h1).env.domT, h1.inn (fun _ z => .inl z), r, e, fun v H' f2 h2 r2 => q v H' (f1.trans f2) (h1.back h2) r2⟩
theorem s_callv (g : Gd G cl k sc N X) {i : Nat} {l : MEs} {x : PySem.Str} {p pos : Pos} {A : Expr} {L : List Expr} (h : vr sc N i x = true) (hp : (A :: L).all plainA = true) (hl : PA X (A :: L) (wdA G cl l)) :
    PE X (.Call (.Name x p) (A :: L) [] pos) (wd G cl (.callv i l)) := by
  obtain ⟨h1, h2, h3, h4⟩ := vr_vis g h
  simp only [List.all_cons, Bool.and_eq_true] at hp
  refine ⟨fun pins s σ H Q I hq => ?_⟩
  obtain ⟨S, ρ, s0, d, s', n, e, q⟩ := hq
  obtain ⟨f, ds, s1, e1, e2, e3, e4⟩ := inv_callv e
  obtain ⟨v, h5, h6⟩ := n.env.pur i _ e1
  have h6 : v = .ref (G.fa f) := h6
  subst h6
  refine (pe_callA (X := X) (k := k) (S := fun a => open Classical in if a = G.fa f then some (spec G cl f) else none) (fun a sp e => ?_) g.room h1 h2 hl h3 h4 (plain_star hp.1) (plains_any hp.2)).run pins s σ H Q I ⟨G.fa f, spec G cl f, h5, if_pos rfl, S, ρ, s0, ds, s1, n, e2, fun vs H1 f1 h1 r1 => spec_of n f1 h1 r1 e4 q⟩
  split at e
  · rename_i hf
    cases e
    rw [hf]
    exact g.hold f
  · cases e
theorem s_call (g : Gd G cl k sc N X) {f : Fn} {l : MEs} {x : PySem.Str} {p pos : Pos} {A : Expr} {L : List Expr} (hx : fnAt f = (x, none)) (h : glC sc x = true)
    (hp : (A :: L).all plainA = true) (hl : PA X (A :: L) (wdA G cl l)) : PE X (.Call (.Name x p) (A :: L) [] pos) (wd G cl (.call f l)) := by
  obtain ⟨h1, h2⟩ := gl_of g h
  have hm := g.W.fnm f (by rw [hx])
  rw [hx] at hm
  simp only [List.all_cons, Bool.and_eq_true] at hp
  refine ⟨fun pins s σ H Q I hq => ?_⟩
  obtain ⟨S, ρ, s0, d, s', n, e, q⟩ := hq
  obtain ⟨ds, s1, e1, e2⟩ := inv_call e
  by_cases hd : (if ds.length = np f then [] else dfl f) = []
  · rw [hd, List.append_nil] at e2
    obtain ⟨fd, ps, F, hk, hb⟩ := (g.hold f).ex
    refine (pe_call (E := fun _ _ _ => False) F g.room h1 hm hk hb .nil (fun _ _ _ _ _ _ _ z => z.elim) hl h2 (plain_star hp.1) (plains_any hp.2)).run pins s σ H Q I ⟨S, ρ, s0, ds, s1, n, e1, fun vs H1 f1 h1 r1 => ?_⟩
    show spec G cl f (vs ++ []) H1 Q _
    rw [List.append_nil]
    exact spec_of n f1 h1 r1 e2 q
  · have hd2 : dfl f ≠ [] := fun z => hd (by rw [z]; split <;> rfl)
    have hd3 : (if ds.length = np f then [] else dfl f) = [D.non] := by
      split
      · rename_i hl
        rw [if_pos hl] at hd
        exact absurd rfl hd
      · cases f <;> first | rfl | exact absurd rfl hd2
    rw [hd3] at e2
    obtain ⟨fd, ps, F, hk, hb⟩ := g.holdD f hd2
    refine (pe_call (E := fun _ _ _ => False) (dvs := [.non]) F g.room h1 hm hk hb (.cons rfl .nil) (fun _ _ _ _ _ _ _ z => z.elim) hl h2 (plain_star hp.1) (plains_any hp.2)).run pins s σ H Q I ⟨S, ρ, s0, ds, s1, n, e1, fun vs H1 f1 h1 r1 => ?_⟩
    exact spec_of n f1 h1 (r1.append (RepL.cons (d := .non) (v := .non) (by unfold Rep; rfl) RepL.nil)) e2 q
theorem plains_all {pos : Pos} {env : PySem.Env} : ∀ {es : List Expr}, es.all plainA = true → (backTo pos (starEach es env)).all (fun x => !x.1) = true
  | [], _ => rfl
  | e :: es, h => by
    simp only [List.all_cons, Bool.and_eq_true] at h
    rw [plain_star h.1]
    show (true && (backTo pos (starEach es env)).all (fun x => !x.1)) = true
    rw [plains_all h.2]
    rfl
theorem form_of {pos : Pos} {env : PySem.Env} {es : List Expr} (h : es.all plainA = true) (hl : es.length < 20) : ((backTo pos (starEach es env)).all (fun x => !x.1) && (backToKw pos (keywordEach [] env)).all (fun x => x.1.isSome)
      && decide (es.length + ([] : List Keyword).length + (if ([] : List Keyword).isEmpty then 0 else 1) < 30)) = true := by
  rw [plains_all h]
  show (true && true && decide (es.length + 0 + 0 < 30)) = true
  rw [decide_eq_true (by omega)]
  rfl
/-- a method's call as the rules want it -/
theorem ht_name {x m : PySem.Str} {p apos pos : Pos} {es : List Expr} {env : PySem.Env} (h : es.all plainA = true) (hl : es.length < 20) (hline : (apos.endLine == pos.line) = true) :
    eval (.Call (.Attribute (.Name x p) m apos) es [] pos) env = (do
      let ov ← eval (.Name x p) env
      standAt apos.atName
      let (f, first) ← holding [ov] (getMethod ov m (do return (← importBound (.Name x p) env).getD true))
      callWith pos f first (backTo pos (starEach es env)) (backToKw pos (keywordEach [] env))) := by
  have hform : methodCallForm (es.length + ([] : List Keyword).length) (backTo pos (starEach es env)) (backToKw pos (keywordEach [] env)) = true := form_of h hl
  have hpos : methodCallPos true (.Name x p) env apos pos = pure pos := by unfold methodCallPos; simp [hline]
  rw [arm_eval_Call]
  unfold methodCall
  rw [hform, hpos]
  rfl
theorem s_meth (g : Gd G cl k sc N X) {f : Fn} {i : Nat} {a : ME} {l : MEs} {m x : PySem.Str} {p apos pos : Pos} {A : Expr} {L : List Expr} (hx : (fnAt f).2 = some m) (hm : m ≠ "shelf") (h20 : (A :: L).length < 20) (hline : (apos.endLine == pos.line) = true) (ha : PE X (.Name x p) (wd G cl a)) (hp : (A :: L).all plainA = true) (hl : PA X (A :: L) (wdA G cl l)) :
    PE X (.Call (.Attribute (.Name x p) m apos) (A :: L) [] pos) (wd G cl (.meth f a l)) := by
  have ht := ht_name (x := x) (m := m) (p := p) (apos := apos) (pos := pos) (env := X.env) hp h20 hline
  simp only [List.all_cons, Bool.and_eq_true] at hp
  obtain ⟨fd, ps, F, hk, hb⟩ := (g.hold f).ex
  refine PE.imp (pe_meth (E := fun _ _ _ => False) ha g.W.cls (g.W.mth f m hx) F g.room hb .nil (fun _ _ _ _ _ _ _ z => z.elim) hl (plain_star hp.1) (plains_any hp.2) ht) fun σ H Q ⟨S, ρ, s, d, s', n, e, q⟩ => ?_
  obtain ⟨s1, ds, s2, e1, e2, e3⟩ := inv_meth e
  refine ⟨S, ρ, s, _, s1, n, e1, fun v H1 f1 h1 r1 => ?_⟩
  obtain ⟨y, hy, rfl⟩ : ∃ y, G.dk = some y ∧ v = .ref y.1 := r1
  obtain ⟨a0, dx, d0⟩ := y
  have sh := h1
  unfold Shf at sh
  rw [hy] at sh
  refine ⟨a0, dx, _, rfl, sh.2.1, ?_, S, ρ, s1, ds, s2, n.fr f1 h1, e2, fun vs H2 f2 h2 r2 => ?_⟩
  · show List.lookup m [("shelf", _)] = none
    rw [List.lookup_cons]
    have e : (m == "shelf") = false := by simpa using hm
    rw [e]
    rfl
  · show spec G cl f (V.ref a0 :: (vs ++ [])) H2 Q _
    rw [List.append_nil]
    have r0 : Rep G (wo H2 (Tw S ρ σ)) .desk (.ref a0) := ⟨_, hy, rfl⟩
    exact spec_of n (f1.trans f2) h2 (RepL.cons r0 r2) e3 q
end
end Pk
end
section
-- PkSnd3
set_option linter.all false
set_option maxRecDepth 100000
/-! What each form of the text is read as: built-ins. -/
namespace Pk
open PySem PySem.Spec PyProof.Rows L2
section
variable {G : Gx} {cl : Cl} {k : Nat} {sc : Scope} {N : List PySem.Str} {X : Cx}
def b1name : B1 → PySem.Str
  | .len1 => "len" | .int1 => "int" | .str1 => "str" | .tuple1 => "tuple" | .list1 => "list" | .sorted1 => "sorted" | .all1 => "all" | .maxd => "max" | .dict1 => "dict"
theorem one_pa {A : Expr} {t : TE} (hp : plainA A = true) (ha : PE X A t) : PA X [A] (tCons t tNil) := pa_cons ha pa_nil (plain_star hp)
theorem b1_key {b : B1} {a : ME} {σ : L2.St} {H : Hp} {Q : VK} (h : wd G cl (.b1 b a) σ H Q) : tCB (rB1 G b) (tCons (wdB G cl a) tNil) σ H Q := by
  obtain ⟨S, ρ, s, d, s', n, e, q⟩ := h
  obtain ⟨x, e1, ez⟩ := inv_b1 e
  exact ⟨S, ρ, s, x, s', n, e1, fun v H1 f1 h1 r1 => ⟨_, x, v, d, rfl, (n.fr f1 h1).env.domT, r1, ez, (q.fr f1).res h1⟩⟩
theorem bl_none (g : Gd G cl k sc N X) {x : PySem.Str} (h : x ∈ bnames) : X.mg x = none := g.W.bl x h
theorem s_b1 (g : Gd G cl k sc N X) {b : B1} {a : ME} {x : PySem.Str} {A : Expr} {p pos : Pos} (hb : b ≠ .maxd) (hx : x = b1name b) (h : glC sc x = true) (hp : plainA A = true) (ha : PE X A (wdB G cl a)) : PE X (.Call (.Name x p) [A] [] pos) (wd G cl (.b1 b a)) := by
  subst hx
  obtain ⟨h1, h2⟩ := gl_of g h
  have hA := one_pa hp ha
  have hs := plain_star (es := []) (env := X.env) hp
  cases b with
  | len1 => exact PE.imp (pe_callB (call_b_len g.C) h1 (bl_none g (by decide)) boot_len hA (by decide) h2 hs) fun σ H Q => b1_key
  | int1 => exact PE.imp (pe_callTy (call_b_int g.C) h1 (bl_none g (by decide)) PyProof.Rows.boot_int hA (by decide) h2 hs) fun σ H Q => b1_key
  | str1 => exact PE.imp (pe_callTy (call_b_str g.C) h1 (bl_none g (by decide)) PyProof.Rows.boot_str hA (by decide) h2 hs) fun σ H Q => b1_key
  | tuple1 => exact PE.imp (pe_callTy (call_b_tuple g.C) h1 (bl_none g (by decide)) PyProof.Rows.boot_tuple hA (by decide) h2 hs) fun σ H Q => b1_key
  | list1 => exact PE.imp (pe_callTy (call_b_list g.C) h1 (bl_none g (by decide)) PyProof.Rows.boot_list hA (by decide) h2 hs) fun σ H Q => b1_key
  | sorted1 => exact PE.imp (pe_callB (call_b_sorted g.C) h1 (bl_none g (by decide)) PyProof.Rows.boot_sorted hA (by decide) h2 hs) fun σ H Q => b1_key
  | all1 => exact PE.imp (pe_callB (call_b_all g.C) h1 (bl_none g (by decide)) PyProof.Rows.boot_all hA (by decide) h2 hs) fun σ H Q => b1_key
  | maxd => exact absurd rfl hb
  | dict1 => exact PE.imp (pe_callTy (call_b_dict g.C) h1 (bl_none g (by decide)) PyProof.Rows.boot_dict hA (by decide) h2 hs) fun σ H Q => b1_key
def b2name : B2 → PySem.Str
  | .max2 => "max" | .min2 => "min"
theorem b2_max {x y z : D} (h : b2D .max2 x y = some z) : ∃ i j, x = .int i ∧ y = .int j ∧ z = .int (if j > i then j else i) := by
  cases x <;> cases y <;> first | (cases h; done) | (cases h; exact ⟨_, _, rfl, rfl, rfl⟩)
theorem b2_min {x y z : D} (h : b2D .min2 x y = some z) : ∃ i j, x = .int i ∧ y = .int j ∧ z = .int (if j < i then j else i) := by
  cases x <;> cases y <;> first | (cases h; done) | (cases h; exact ⟨_, _, rfl, rfl, rfl⟩)
theorem s_b2 (g : Gd G cl k sc N X) {o : B2} {a b : ME} {x : PySem.Str} {A B : Expr} {p pos : Pos} (hx : x = b2name o) (h : glC sc x = true) (hp : plainA A = true) (hq : plainA B = true) (ha : PE X A (wd G cl a)) (hb : PE X B (wd G cl b)) : PE X (.Call (.Name x p) [A, B] [] pos) (wd G cl (.b2 o a b)) := by
  subst hx
  obtain ⟨h1, h2⟩ := gl_of g h
  have hA : PA X [A, B] (tCons (wd G cl a) (tCons (wd G cl b) tNil)) := pa_cons ha (one_pa hq hb) (plain_star hp)
  have hs := plain_star (es := [B]) (env := X.env) hp
  have hpl : (backTo pos (starEach [B] X.env)).any (·.1) = false := plains_any (by simp [hq])
  cases o with
  | max2 =>
    refine PE.imp (pe_callB (call_max2 g.C.calm) h1 (bl_none g (by decide)) PyProof.Rows.boot_max hA (by decide) h2 hs hpl) fun σ H Q ⟨S, ρ, s, d, s', n, e, q⟩ => ?_
    obtain ⟨x, s1, y, e1, e2, ez⟩ := inv_b2 e
    obtain ⟨i, j, rfl, rfl, rfl⟩ := b2_max ez
    exact ⟨S, ρ, s, _, s1, n, e1, fun v H1 f1 h1 r1 => ⟨S, ρ, s1, _, s', n.fr f1 h1, e2, fun u H2 f2 h2 r2 => ⟨i, j, by rw [show v = .int i from r1, show u = .int j from r2], (q.fr (f1.trans f2)).now h2 rfl⟩⟩⟩
  | min2 =>
    refine PE.imp (pe_callB (call_min2 g.C.calm) h1 (bl_none g (by decide)) PyProof.Rows.boot_min hA (by decide) h2 hs hpl) fun σ H Q ⟨S, ρ, s, d, s', n, e, q⟩ => ?_
    obtain ⟨x, s1, y, e1, e2, ez⟩ := inv_b2 e
    obtain ⟨i, j, rfl, rfl, rfl⟩ := b2_min ez
    exact ⟨S, ρ, s, _, s1, n, e1, fun v H1 f1 h1 r1 => ⟨S, ρ, s1, _, s', n.fr f1 h1, e2, fun u H2 f2 h2 r2 => ⟨i, j, by rw [show v = .int i from r1, show u = .int j from r2], (q.fr (f1.trans f2)).now h2 rfl⟩⟩⟩
/-- max(l, default=0) -/
theorem cr_maxd (C : Ctx G X) : CallRK X (.builtin "max") [PySem.Str.ofString "default"] (fun xs zs H Q => zs = [.int 0] ∧ rB1 G .maxd xs H Q) := by
  intro pins s σ H vs zs us ws Q I r rz h
  obtain ⟨rfl, T, d, x, z, rfl, hT, hd, ez, q⟩ := h
  obtain ⟨u, rfl, r1⟩ := vals1 r
  obtain ⟨w1, rfl, t, rfl⟩ := vals1 rz
  exact max_dflt C I r1 hd ez q
theorem s_maxd (g : Gd G cl k sc N X) {a : ME} {A : Expr} {j : Nat} {p pos cp kp : Pos} (h : glC sc "max" = true) (hp : plainA A = true) (ha : PE X A (wdB G cl a)) :
    PE X (.Call (.Name "max" p) [A] [⟨some "default", .Constant (.int 0) j cp, kp⟩] pos) (wd G cl (.b1 .maxd a)) := by
  obtain ⟨h1, h2⟩ := gl_of g h
  have hs := plain_star (es := []) (env := X.env) hp
  refine PE.imp (pe_callBK (cr_maxd g.C) h1 (bl_none g (by decide)) PyProof.Rows.boot_max (one_pa hp ha) (pk_cons (pe_int (i := 0)) pk_nil) (by decide) h2 (by rw [hs]; rfl) (plains_any (by simp [hp]))) fun σ H Q hq => ?_
  obtain ⟨S, ρ, s, x, s', n, e1, q⟩ := b1_key hq
  exact ⟨S, ρ, s, x, s', n, e1, fun v H1 f1 h1 r1 => ⟨rfl, q v H1 f1 h1 r1⟩⟩
theorem s_lrng (g : Gd G cl k sc N X) {a : ME} {A : Expr} {p p2 pos pos2 : Pos} (h : glC sc "list" = true) (h' : glC sc "range" = true) (hp : plainA A = true) (ha : PE X A (wd G cl a)) :
    PE X (.Call (.Name "list" p) [.Call (.Name "range" p2) [A] [] pos2] [] pos) (wd G cl (.lrng a)) := by
  obtain ⟨h1, h2⟩ := gl_of g h
  obtain ⟨h3, h4⟩ := gl_of g h'
  refine PE.imp (pe_listRg g.C.calm h1 (bl_none g (by decide)) (prg_1 h3 (bl_none g (by decide)) ha (plain_star hp)) (plain_star rfl)) fun σ H Q ⟨S, ρ, s, d, s', n, e, q⟩ => ?_
  obtain ⟨i, e1, hs, rfl⟩ := inv_lrng e
  refine ⟨S, ρ, s, _, s', n, e1, fun v H1 f1 h1 r1 => ⟨i, r1, ?_, ?_⟩⟩
  · unfold small? at hs
    have hs := of_decide_eq_true hs
    exact ⟨by omega, by omega, by omega, by omega, by omega⟩
  · refine ((q.fr f1).res h1).lst (n.fr f1 h1).env.domT ?_
    have e : rgV 0 i = (rngL 0 i).map fun x => match x with | .int z => V.int z | _ => V.non := by
      unfold rgV rngL
      rw [List.map_map]
      rfl
    have e2 : rngL 0 i = ((List.range (i - 0).toNat).map fun j => (0 + (j : Nat) : Int)).map D.int := by
      unfold rngL
      rw [List.map_map]
      rfl
    have e3 : rgV 0 i = ((List.range (i - 0).toNat).map fun j => (0 + (j : Nat) : Int)).map V.int := by
      unfold rgV
      rw [List.map_map]
      rfl
    rw [e2, e3]
    exact RepL.ints _
/-! ### isinstance -/
def tyName : Ty → PySem.Str
  | .tint => "int" | .tbool => "bool" | .tstr => "str" | .ttup => "tuple"
def tyStr : Ty → String
  | .tint => "int" | .tbool => "bool" | .tstr => "str" | .ttup => "tuple"
theorem ty_boot (t : Ty) : bootBuiltins (tyName t) = some (.type (tyStr t)) := by
  cases t
  · exact PyProof.Rows.boot_int
  · exact PyProof.Rows.boot_bool
  · exact PyProof.Rows.boot_str
  · exact PyProof.Rows.boot_tuple
theorem sqT_ty {K : PySem.W.Frag} {H : Hp} {a : Addr} {xs : List V} (h : SqT K H a xs) : TyX K H (.ref a) (.type "tuple") := by
  rcases h with (h | ⟨o, h⟩) | ⟨o, its, n, h1, h2, _⟩
  · exact .base (.tup h)
  · exact .fTuple h
  · exact .kTuple h1 h2
theorem isi_key {K : PySem.W.Frag} {H : Hp} {t : Ty} {x : D} {v : V} (hK : G.K = K) (h : (∃ i, x = .int i) ∨ (∃ i, x = .bl i) ∨ (∃ i, x = .str i) ∨ (∃ i, x = .tup i)) (r : Rep G H x v) :
    ∃ u, TyX K H v u ∧ PySem.W.kitOne K u (.type (tyStr t)) = some (isiD t x) := by
  rcases h with ⟨i, rfl⟩ | ⟨i, rfl⟩ | ⟨i, rfl⟩ | ⟨i, rfl⟩
  · have e : v = .int i := r
    subst e
    exact ⟨_, .base (.int i), by cases t <;> rfl⟩
  · have e : v = .bl i := r
    subst e
    exact ⟨_, .base (.bl i), by cases t <;> rfl⟩
  · have e : v = .str ⟨i.toArray⟩ := r
    subst e
    exact ⟨_, .base (.str _), by cases t <;> rfl⟩
  · unfold Rep at r
    obtain ⟨a, vs, rfl, h1, _⟩ := r
    rw [hK] at h1
    exact ⟨_, sqT_ty h1, by cases t <;> rfl⟩
theorem Rep.tyX {H H' : Hp} {x : D} {v : V} (e : Same H H') (r : Rep G H x v) : Rep G H' x v := Rep.mono e x r
theorem s_isi (g : Gd G cl k sc N X) {a : ME} {t : Ty} {A : Expr} {x : PySem.Str} {p p2 pos : Pos} (h : glC sc "isinstance" = true) (h' : glC sc x = true) (hx : x = tyName t) (hp : plainA A = true) (ha : PE X A (wd G cl a)) :
    PE X (.Call (.Name "isinstance" p) [A, .Name x p2] [] pos) (wd G cl (.isi a t)) := by
  subst hx
  obtain ⟨h1, h2⟩ := gl_of g h
  obtain ⟨h3, h4⟩ := gl_of g h'
  have hB : PE X (.Name (tyName t) p2) (tC (.ty (tyStr t))) := pe_bltn h3 (bl_none g (by cases t <;> decide)) (ty_boot t) rfl (by cases t <;> decide) h4
  have hA : PA X [A, .Name (tyName t) p2] (tCons (wd G cl a) (tCons (tC (.ty (tyStr t))) tNil)) := pa_cons ha (one_pa rfl hB) (plain_star hp)
  refine PE.imp (pe_callB call_isi h1 (bl_none g (by decide)) PyProof.Rows.boot_isinstance hA (by decide) h2 (plain_star hp) (plains_any rfl)) fun σ H Q ⟨S, ρ, s, d, s', n, e, q⟩ => ?_
  obtain ⟨x, e1, hx, rfl⟩ := inv_isi e
  refine ⟨S, ρ, s, x, s', n, e1, fun v H1 f1 h1 r1 => ?_⟩
  obtain ⟨u, h5, h6⟩ := isi_key (t := t) g.C.K.symm hx (Rep.mono (wo_same H1 _) x r1)
  exact ⟨v, _, u, _, _, rfl, .ty _, h5, h6, (q.fr f1).now h1 rfl⟩
end
end Pk
end
section
-- PkSnd4
set_option linter.all false
set_option maxRecDepth 100000
/-! What each form of the text is read as: texts, written dicts, the shelf. -/
namespace Pk
open PySem PySem.Spec PyProof.Rows L2
theorem one_sign {c x : Nat} {r : List Nat} : TL.pre [c] (x :: r) = decide (x = c) := by
  unfold TL.pre
  simp
  first | rfl | (by_cases h : x = c <;> simp [h])
theorem partL_par (c : Nat) : ∀ (a acc : List Nat), (TL.par [c] acc a = none ∧ partL c a = (a, [], [])) ∨ ∃ p q, TL.par [c] acc a = some (acc ++ p, q) ∧ partL c a = (p, [c], q)
  | [], acc => .inl ⟨rfl, rfl⟩
  | x :: r, acc => by
    by_cases h : x = c
    · refine .inr ⟨[], r, ?_, ?_⟩
      · unfold TL.par
        rw [if_pos (by rw [one_sign]; exact decide_eq_true h)]
        simp
      · unfold partL
        rw [if_pos h]
    · have e1 : TL.par [c] acc (x :: r) = TL.par [c] (acc ++ [x]) r := by
        show (if TL.pre [c] (x :: r) = true then _ else _) = _
        rw [if_neg (by rw [one_sign]; simpa using h)]
      have e2 : partL c (x :: r) = (x :: (partL c r).1, (partL c r).2.1, (partL c r).2.2) := by
        show (if x = c then _ else _) = _
        rw [if_neg h]
      rcases partL_par c r (acc ++ [x]) with ⟨h1, h2⟩ | ⟨p, q, h1, h2⟩
      · exact .inl ⟨e1.trans h1, by rw [e2, h2]⟩
      · exact .inr ⟨x :: p, q, by rw [e1, h1]; simp, by rw [e2, h2]⟩
theorem partL_eq (a : List Nat) (c : Nat) : Txt.partition ⟨a.toArray⟩ ⟨[c].toArray⟩ = (⟨(partL c a).1.toArray⟩, ⟨(partL c a).2.1.toArray⟩, ⟨(partL c a).2.2.toArray⟩) := by
  rcases partL_par c a [] with ⟨h1, h2⟩ | ⟨p, q, h1, h2⟩
  · rw [h2]
    exact SX.partition_none (by simp) h1
  · rw [h2]
    exact SX.partition_some (by simp) h1
theorem joinL_eq (a : List Nat) : ∀ ys : List (List Nat), TL.joinL a ys = joinL a ys
  | [] => rfl
  | [_] => rfl
  | p :: q :: r => by
    show p ++ (a ++ TL.joinL a (q :: r)) = p ++ a ++ joinL a (q :: r)
    rw [joinL_eq a (q :: r), List.append_assoc]
theorem join_size (n : Nat) : ∀ ys : List (List Nat), ((ys.map fun x => (⟨x.toArray⟩ : PySem.Str)).map (·.length)).sum + (ys.map fun x => (⟨x.toArray⟩ : PySem.Str)).length * n = joinSize n ys
  | [] => by simp [joinSize]
  | x :: r => by
    have h := join_size n r
    simp only [List.map_cons, List.sum_cons, List.length_cons, joinSize, strLen, Nat.succ_mul] at h ⊢
    omega
section
variable {G : Gx} {cl : Cl} {k : Nat} {sc : Scope} {N : List PySem.Str} {X : Cx}
theorem RepL.strs' {H : Hp} : ∀ (ys : List PySem.Str), RepL G H (ys.map fun z => D.str (strL z)) (ys.map V.str)
  | [] => RepL.nil
  | n :: r => RepL.cons (by unfold Rep strL; simp) (RepL.strs' r)
/-- what may stand ahead of a method's dot -/
def plainO : Expr → Bool
  | .Call _ _ _ _ => false
  | _ => true
theorem base_of {o : Expr} {m : PySem.Str} {env : PySem.Env} (h : plainO o = true) : attributeBase o m env (eval o env) = eval o env := by
  cases o <;> first | rfl | cases h
theorem repStr {H : Hp} {l : List Nat} {v : V} (h : Rep G H (.str l) v) : v = .str ⟨l.toArray⟩ := h
theorem split_cases {x y z : D} (h : splitD x y = some z) : ∃ a b, x = .str a ∧ y = .str b ∧ b ≠ [] ∧ a.length + 2 ≤ sizeLine ∧ z = .lst ((Txt.split ⟨a.toArray⟩ ⟨b.toArray⟩).map fun z => .str (strL z)) := by
  unfold splitD at h
  split at h
  · split at h
    · rename_i hc
      cases h
      exact ⟨_, _, rfl, rfl, hc.1, hc.2, rfl⟩
    · cases h
  · cases h
theorem s_split (g : Gd G cl k sc N X) {a b : ME} {A B : Expr} {apos pos : Pos} (ho : plainO A = true) (hp : plainA B = true) (hl : (apos.endLine == pos.line) = true) (ha : PE X A (wd G cl a)) (hb : PE X B (wd G cl b)) :
    PE X (.Call (.Attribute A "split" apos) [B] [] pos) (wd G cl (.split a b)) := by
  refine PE.imp (pe_split ha hb (plain_star hp) (base_of ho) hl) fun σ H Q ⟨S, ρ, s, d, s', n, e, q⟩ => ?_
  obtain ⟨x, s1, y, e1, e2, ez⟩ := inv_split e
  obtain ⟨u, w, rfl, rfl, h3, h4, rfl⟩ := split_cases ez
  refine ⟨S, ρ, s, _, s1, n, e1, fun v H1 f1 h1 r1 => ⟨⟨_, repStr r1⟩, S, ρ, s1, _, s', n.fr f1 h1, e2, fun v2 H2 f2 h2 r2 => ?_⟩⟩
  refine ⟨_, _, repStr r1, by rw [repStr r2], by rw [strLen]; simpa using h3, by rw [strLen]; exact h4, ?_⟩
  exact ((q.fr (f1.trans f2)).res h2).lst ((n.fr f1 h1).fr f2 h2).env.domT (RepL.strs' _)
theorem part_cases {x y z : D} (h : partD x y = some z) : ∃ a c, x = .str a ∧ y = .str [c] ∧ a.length ≤ sizeLine ∧ z = .tup [.str (partL c a).1, .str (partL c a).2.1, .str (partL c a).2.2] := by
  unfold partD at h
  split at h
  · split at h
    · cases h
      exact ⟨_, _, rfl, rfl, ‹_›, rfl⟩
    · cases h
  · cases h
theorem s_part (g : Gd G cl k sc N X) {a b : ME} {A B : Expr} {apos pos : Pos} (ho : plainO A = true) (hp : plainA B = true) (hl : (apos.endLine == pos.line) = true) (ha : PE X A (wd G cl a)) (hb : PE X B (wd G cl b)) :
    PE X (.Call (.Attribute A "partition" apos) [B] [] pos) (wd G cl (.part a b)) := by
  refine PE.imp (pe_partition ha hb (plain_star hp) (base_of ho) hl) fun σ H Q ⟨S, ρ, s, d, s', n, e, q⟩ => ?_
  obtain ⟨x, s1, y, e1, e2, ez⟩ := inv_part e
  obtain ⟨u, c, rfl, rfl, h4, rfl⟩ := part_cases ez
  refine ⟨S, ρ, s, _, s1, n, e1, fun v H1 f1 h1 r1 => ⟨⟨_, repStr r1⟩, S, ρ, s1, _, s', n.fr f1 h1, e2, fun v2 H2 f2 h2 r2 => ?_⟩⟩
  refine ⟨_, _, repStr r1, by rw [repStr r2], rfl, by rw [strLen]; exact h4, ?_⟩
  rw [partL_eq]
  exact ((q.fr (f1.trans f2)).res h2).tup ((n.fr f1 h1).fr f2 h2).env.domT (RepL.cons rfl (RepL.cons rfl (RepL.cons rfl RepL.nil)))
theorem join_cases {x y z : D} (h : joinD x y = some z) : ∃ a l ys, x = .str a ∧ y = .lst l ∧ asStrs l = some ys ∧ joinSize a.length ys ≤ 1000000 ∧ z = .str (joinL a ys) := by
  unfold joinD at h
  split at h
  · obtain ⟨ys, h1, h2⟩ := Option.bind_eq_some_iff.mp h
    split at h2
    · cases h2
      exact ⟨_, _, ys, rfl, rfl, h1, ‹_›, rfl⟩
    · cases h2
  · cases h
theorem s_join (g : Gd G cl k sc N X) {a b : ME} {A B : Expr} {apos pos : Pos} (ho : plainO A = true) (hp : plainA B = true) (hl : (apos.endLine == pos.line) = true) (ha : PE X A (wd G cl a)) (hb : PE X B (wdB G cl b)) :
    PE X (.Call (.Attribute A "join" apos) [B] [] pos) (wd G cl (.join a b)) := by
  refine PE.imp (pe_join ha hb (plain_star hp) (base_of ho) hl) fun σ H Q ⟨S, ρ, s, d, s', n, e, q⟩ => ?_
  obtain ⟨x, s1, y, e1, e2, ez⟩ := inv_join e
  obtain ⟨u, l, ys, rfl, rfl, h3, h4, rfl⟩ := join_cases ez
  refine ⟨S, ρ, s, _, s1, n, e1, fun v H1 f1 h1 r1 => ⟨⟨_, repStr r1⟩, S, ρ, s1, _, s', n.fr f1 h1, e2, fun v2 H2 f2 h2 r2 => ?_⟩⟩
  obtain ⟨p, vs, rfl, h5, h6⟩ := RepB.lst r2
  obtain ⟨rfl, _⟩ := h6.asStrs h3
  refine ⟨_, p, ys.map fun x => ⟨x.toArray⟩, repStr r1, rfl, .inl (.of h5), ?_, ?_⟩
  · rw [strLen, join_size]
    omega
  · have e : Txt.join ⟨u.toArray⟩ (ys.map fun x => (⟨x.toArray⟩ : PySem.Str)) = ⟨(joinL u ys).toArray⟩ := (SX.join_S u ys).trans (by rw [joinL_eq])
    rw [e]
    exact (q.fr (f1.trans f2)).now h2 rfl
/-! ### f-strings -/
theorem s_fstr (g : Gd G cl k sc N X) {a b : ME} {A B : Expr} {x y : PySem.Str} {p q : List Nat} {j1 j2 : Nat} {p1 p2 p3 p4 pos : Pos} (hx : x.cps.toList = p) (hy : y.cps.toList = q) (h1 : p.length ≤ 100) (h2 : q.length ≤ 100) (ha : PE X A (wd G cl a)) (hb : PE X B (wd G cl b)) :
    PE X (.JoinedStr [.Constant (.str x) j1 p1, .FormattedValue A (-1) none p2, .Constant (.str y) j2 p3, .FormattedValue B (-1) none p4] pos) (wd G cl (.fstr p a q b)) := by
  have ex : x = ⟨p.toArray⟩ := by rw [← hx]
  have ey : y = ⟨q.toArray⟩ := by rw [← hy]
  subst ex ey
  refine PE.imp (pe_joined (.cons pe_str (.cons (pe_fmt ha) (.cons pe_str (.cons (pe_fmt hb) .nil))))) fun σ H Q ⟨S, ρ, s, d, s', n, e, q⟩ => ?_
  obtain ⟨i, s1, j, e1, e2, hi, hj, rfl⟩ := inv_fstr e
  have z := sizeLine_eq
  have z0 : (PySem.Str.empty : PySem.Str) = ⟨([] : List Nat).toArray⟩ := rfl
  refine ⟨_, rfl, ?_, S, ρ, s, _, s1, n, e1, fun v H1 f1 h1' r1 => .inr ⟨i, r1, digit_log i hi, ?_⟩⟩
  · rw [z0, strApp, strLen]
    simp
    omega
  refine ⟨_, by rw [digit_str i hi], ?_, _, rfl, ?_, S, ρ, s1, _, s', n.fr f1 h1', e2, fun v2 H2 f2 h2' r2 => .inr ⟨j, r2, digit_log j hj, ?_⟩⟩
  · rw [z0, strApp, strApp, strLen]
    simp
    omega
  · rw [z0, strApp, strApp, strApp, strLen]
    simp
    omega
  refine ⟨_, by rw [digit_str j hj], ?_, ?_⟩
  · rw [z0, strApp, strApp, strApp, strApp, strLen]
    simp
    omega
  · show Q (.str _) H2
    rw [z0, strApp, strApp, strApp, strApp]
    exact (q.fr (f1.trans f2)).now h2' (by unfold Rep; simp)
end
end Pk
end
section
-- PkSnd5
set_option linter.all false
set_option maxRecDepth 100000
/-! What each form of the text is read as: written dicts, the shelf. -/
namespace Pk
open PySem PySem.Spec PyProof.Rows L2
section
variable {G : Gx} {cl : Cl} {k : Nat} {sc : Scope} {N : List PySem.Str} {X : Cx}
theorem s_fix (g : Gd G cl k sc N X) {a : ME} {A : Expr} {p pos : Pos} (h : glC sc "FORMS" = true) (hi : plainI A = true) (ha : PE X A (wd G cl a)) : PE X (.Subscript (.Name "FORMS" p) A pos) (wd G cl (.fix a)) := by
  obtain ⟨h1, h2⟩ := gl_of g h
  obtain ⟨t, es, n0, hm, D, hk⟩ := g.W.forms
  refine PE.imp (pe_ix ix_kdict (pe_glob (v := .ref t) h1 hm rfl h2) ha (plainI_ix hi)) fun σ H Q ⟨S, ρ, s, d, s', n, e, q⟩ => ?_
  obtain ⟨x, v, e1, e2, rfl⟩ := inv_fix e
  obtain ⟨u, h3, h4⟩ := hk x v e2
  exact ⟨S, ρ, s, _, s', n, e1, fun w H1 f1 h1 r1 => ⟨t, _, _, rfl, repStr r1, ⟨es, n0, u, D.at_, D.lit, h3, h4⟩, (q.fr f1).now h1 rfl⟩⟩
theorem s_fget (g : Gd G cl k sc N X) {a : ME} {A : Expr} {p apos pos : Pos} (h : glC sc "FORMS" = true) (hp : plainA A = true) (hl : (apos.endLine == pos.line) = true) (ha : PE X A (wd G cl a)) :
    PE X (.Call (.Attribute (.Name "FORMS" p) "get" apos) [A] [] pos) (wd G cl (.fget a)) := by
  obtain ⟨h1, h2⟩ := gl_of g h
  obtain ⟨t, es, n0, hm, D, hk⟩ := g.W.forms
  refine ⟨fun pins s σ H Q I hq => ?_⟩
  obtain ⟨S, ρ, s0, d, s', n, e, q⟩ := hq
  obtain ⟨x, v, e1, e2, rfl⟩ := inv_fget e
  obtain ⟨u, h3, h4⟩ := hk x v e2
  have hps : ([A] : List Expr).all plainA = true := by simp [hp]
  refine wpAny_Call_method (base_of rfl) (form_of hps (show 1 < 20 by decide)) hl PySem.F.plainAttrs_dict PySem.F.slot_dict_get PySem.F.type_dict_get (ld_glob I h1 hm ?_ h2)
  refine ⟨kd_type D I, fun b hb => ?_, ?_⟩
  · cases hb
    exact ⟨_, I.kIn _ _ D.at_, rfl⟩
  rw [plain_star hp]
  refine Calls.callWith_builtin rfl (Calls.evalArgs_plain (Calls.spliced_cons (thn (ha.run pins s σ H (fun y H1 => y = .str ⟨x.toArray⟩ ∧ Q (.str ⟨v.toArray⟩) H1) I ⟨S, ρ, s0, _, s', n, e1, fun w H1 f1 h1 r1 => ⟨repStr r1, (q.fr f1).now h1 rfl⟩⟩) fun iv s2 ⟨y, H2, I2, ry, e3, q2⟩ => Calls.spliced_nil ?_)))
  subst e3
  obtain ⟨tk, rfl⟩ := ry
  refine call_meetsIn PySem.F.slot_dict_get (kd_type D I2) PySem.F.entry_dict_get (PySem.F.args_dict_get_2 _ _) (meets_dict_get (PySem.strKind X.prog X.w) t (PySem.strKind_is X.prog X.w _ tk) D.low) ⟨_, PySem.W.mapOf_K (prog := X.prog) (w := X.w) I2.kIn D.at_ D.lit, ?_⟩
  rw [PySem.W.find_K D.at_ h3]
  exact ⟨_, H2, I2.tok _, h4, q2⟩
theorem valV_two {k1 k2 k : List Nat} {v1 v2 : V} : valV (mergeK [] [(sK k1, v1), (sK k2, v2)]) (sK k) = if k1 = k2 then (if k = k1 then some v2 else none) else if k = k1 then some v1 else if k = k2 then some v2 else none := by
  by_cases h : k1 = k2
  · subst h
    rw [if_pos rfl]
    have e : mergeK [] [(sK k1, v1), (sK k1, v2)] = [(sK k1, v2)] := by
      show putK (putK [] (sK k1) v1) (sK k1) v2 = _
      simp [putK]
    rw [e]
    by_cases h2 : k = k1
    · rw [if_pos h2]
      exact valV_pos (p := (sK k1, v2)) (by rw [h2])
    · rw [if_neg h2]
      exact (valV_neg (p := (sK k1, v2)) fun z => h2 (sK_inj z).symm).trans valV_nil
  · rw [if_neg h]
    have e : mergeK [] [(sK k1, v1), (sK k2, v2)] = [(sK k1, v1), (sK k2, v2)] := by
      show putK (putK [] (sK k1) v1) (sK k2) v2 = _
      have e0 : putK ([] : List (Key × V)) (sK k1) v1 = [(sK k1, v1)] := rfl
      rw [e0]
      unfold putK
      rw [if_neg]
      · rfl
      · simp only [List.any_cons, List.any_nil, Bool.or_false, decide_eq_true_eq]
        exact fun z => h (sK_inj z)
    rw [e]
    by_cases h2 : k = k1
    · rw [if_pos h2]
      exact valV_pos (p := (sK k1, v1)) (by rw [h2])
    · rw [if_neg h2]
      refine (valV_neg (p := (sK k1, v1)) fun z => h2 (sK_inj z).symm).trans ?_
      by_cases h3 : k = k2
      · rw [if_pos h3]
        exact valV_pos (p := (sK k2, v2)) (by rw [h3])
      · rw [if_neg h3]
        exact (valV_neg (p := (sK k2, v2)) fun z => h3 (sK_inj z).symm).trans valV_nil
theorem s_disp (g : Gd G cl k sc N X) {a : ME} {A : Expr} {x1 y1 x2 y2 : PySem.Str} {k1 v1 k2 v2 : List Nat} {j1 j2 j3 j4 : Nat} {p1 p2 p3 p4 dpos pos : Pos} (e1 : x1.cps.toList = k1) (e2 : y1.cps.toList = v1) (e3 : x2.cps.toList = k2) (e4 : y2.cps.toList = v2) (hk : k1 ≠ k2)
    (hi : plainI A = true) (ha : PE X A (wd G cl a)) :
    PE X (.Subscript (.Dict [some (.Constant (.str x1) j1 p1), some (.Constant (.str x2) j3 p3)] [.Constant (.str y1) j2 p2, .Constant (.str y2) j4 p4] dpos) A pos) (wd G cl (.disp k1 v1 k2 v2 a)) := by
  have z1 : x1 = ⟨k1.toArray⟩ := by rw [← e1]
  have z2 : y1 = ⟨v1.toArray⟩ := by rw [← e2]
  have z3 : x2 = ⟨k2.toArray⟩ := by rw [← e3]
  have z4 : y2 = ⟨v2.toArray⟩ := by rw [← e4]
  subst z1 z2 z3 z4
  refine PE.imp (pe_dget (hu1 g.C) (pe_disp (pps_cons pe_str pe_str (pps_cons pe_str pe_str pps_nil)) rfl rfl (by simp) (show 2 ≤ 15 by decide)) ha (plainI_ix hi)) fun σ H Q ⟨S, ρ, s, d, s', n, e, q⟩ => ?_
  obtain ⟨x, e5, e6⟩ := inv_disp e
  intro p hp
  refine ⟨upd_same, [(sK k1, .str ⟨v1.toArray⟩), (sK k2, .str ⟨v2.toArray⟩)], rfl, (show 2 ≤ 15 by decide), ?_⟩
  have sm : Same H (upd (upd H p (.dK [])) p (.dK (mergeK [] [(sK k1, .str ⟨v1.toArray⟩), (sK k2, .str ⟨v2.toArray⟩)]))) := fun b o hb => by
    rw [upd_ne (ne_of_none hb hp), upd_ne (ne_of_none hb hp)]
    exact hb
  refine ⟨S, ρ, s, _, s', n.same sm, e5, fun w H1 f1 h1 r1 => ?_⟩
  have hp1 : H1 p = some (.dK (mergeK [] [(sK k1, .str ⟨v1.toArray⟩), (sK k2, .str ⟨v2.toArray⟩)])) := f1 _ _ (fun y hy z => by
    have hs := n.sh
    unfold Shf at hs
    rw [hy] at hs
    obtain ⟨_, _, kvs, h3, _⟩ := hs
    rw [z, h3] at hp
    cases hp) upd_same
  have ew := repStr r1
  subst ew
  have dg : DGet H1 p (kV (sK x)) (valV (mergeK [] [(sK k1, .str ⟨v1.toArray⟩), (sK k2, .str ⟨v2.toArray⟩)]) (sK x)) := .inl ⟨_, _, .inl hp1, rfl, rfl⟩
  rw [valV_two, if_neg hk] at dg
  rcases e6 with ⟨rfl, rfl⟩ | ⟨h6, rfl, rfl⟩
  · rw [if_pos rfl] at dg
    exact ⟨p, _, rfl, dg, (q.fr ((Fr.of sm).trans f1)).now h1 rfl⟩
  · rw [if_neg h6, if_pos rfl] at dg
    exact ⟨p, _, rfl, dg, (q.fr ((Fr.of sm).trans f1)).now h1 rfl⟩
/-! ### the shelf -/
theorem desk_rep {S : Addr → Prop} {ρ : En} {σ : L2.St} {H : Hp} {s : Sh} (n : Now G S ρ σ H s) (hd : ρ[0]? = some (.p .desk)) : ∃ a0 dx d0, G.dk = some (a0, dx, d0) ∧ σ[0]? = some (some (.ref a0)) := by
  obtain ⟨v, h1, h2⟩ := n.env.pur 0 _ hd
  obtain ⟨y, hy, rfl⟩ : ∃ y, G.dk = some y ∧ v = .ref y.1 := h2
  exact ⟨y.1, y.2.1, y.2.2, hy, h1⟩
theorem shelf_at {S T : Addr → Prop} {H : Hp} {s : Sh} {a0 dx d0 : Addr} (h : Shf G S T H s) (hy : G.dk = some (a0, dx, d0)) : S d0 ∧ H a0 = some (.ins G.C dx [("shelf", .ref d0)]) ∧ ∃ kvs, H d0 = some (.dK kvs) ∧ ShR G (wo H T) s kvs := by
  unfold Shf at h
  rw [hy] at h
  exact h
theorem shR_val {Hw : Hp} : ∀ {s : Sh} {kvs : List (Key × V)} {x : List Nat}, ShR G Hw s kvs → (lookS x s = none ∧ valV kvs (sK x) = none) ∨ ∃ d v, lookS x s = some d ∧ valV kvs (sK x) = some v ∧ Rep G Hw d v
  | [], kvs, x, h => by
    have e : kvs = [] := h
    subst e
    exact .inl ⟨rfl, rfl⟩
  | (y, d) :: r, kvs, x, h => by
    obtain ⟨v, q, rfl, h1, h2⟩ := h
    unfold lookS
    by_cases e : y = x
    · rw [if_pos e]
      exact .inr ⟨d, v, rfl, valV_pos (p := (sK y, v)) (by rw [e]), h1⟩
    · rw [if_neg e, valV_neg (p := (sK y, v)) fun z => e (sK_inj z)]
      exact shR_val h2
theorem self_shelf (g : Gd G cl k sc N X) {x : PySem.Str} {p pos : Pos} (h : vr sc N 0 x = true) : PE X (.Attribute (.Name x p) "shelf" pos) (tFld X.K (tVar 0) "shelf") := pe_fld (vr_pe g h) (base_of rfl)
theorem s_shNot (g : Gd G cl k sc N X) {a : ME} {A : Expr} {x : PySem.Str} {p apos pos : Pos} (h : vr sc N 0 x = true) (ha : PE X A (wd G cl a)) :
    PE X (.Compare A [.NotIn] [.Attribute (.Name x p) "shelf" apos] pos) (wd G cl (.shNot a)) ∧ PT X (.Compare A [.NotIn] [.Attribute (.Name x p) "shelf" apos] pos) (wdT G cl (.shNot a)) := by
  have key : ∀ σ H Q, wd G cl (.shNot a) σ H Q → tDNotIn (wd G cl a) (tFld X.K (tVar 0) "shelf") σ H Q := by
    rintro σ H Q ⟨S, ρ, s, d, s', n, e, q⟩
    obtain ⟨y, hd, e1, rfl⟩ := inv_shNot e
    obtain ⟨a0, dx, d0, hy, hσ⟩ := desk_rep n hd
    refine ⟨S, ρ, s, _, s', n, e1, fun w H1 f1 h1 r1 => ⟨.ref a0, hσ, ?_⟩⟩
    obtain ⟨h2, h3, kvs, h4, h5⟩ := shelf_at h1 hy
    refine ⟨a0, G.C, dx, _, .ref d0, rfl, h3, g.W.cls, g.W.sh, rfl, d0, valV kvs (sK y), rfl, .inl ⟨kvs, sK y, .inl h4, repStr r1, rfl⟩, ?_⟩
    have e2 : (!(valV kvs (sK y)).isSome) = (lookS y s').isNone := by
      rcases shR_val (x := y) h5 with ⟨h6, h7⟩ | ⟨d, v, h6, h7, _⟩
      · rw [h6, h7]
        rfl
      · rw [h6, h7]
        rfl
    rw [e2]
    exact (q.fr f1).now h1 rfl
  have hc := pc_dnotin (hu1 g.C) ha (self_shelf (pos := apos) g h (p := p))
  refine ⟨PE.imp (pe_cmp hc rfl) key, PT.imp (pt_cmp hc rfl) fun σ H Q ⟨S, ρ, s, b, s', n, e, q⟩ => ?_⟩
  refine key σ H _ ⟨S, ρ, s, .bl b, s', n, e, fun v H' f h r => ⟨b, ?_, q H' f h⟩⟩
  unfold Rep at r
  exact r
theorem s_shGet (g : Gd G cl k sc N X) {a : ME} {A : Expr} {x : PySem.Str} {p apos pos : Pos} (h : vr sc N 0 x = true) (hi : plainI A = true) (ha : PE X A (wd G cl a)) : PE X (.Subscript (.Attribute (.Name x p) "shelf" apos) A pos) (wd G cl (.shGet a)) := by
  refine PE.imp (pe_dget (hu1 g.C) (self_shelf (pos := apos) g h (p := p)) ha (plainI_ix hi)) fun σ H Q ⟨S, ρ, s, d, s', n, e, q⟩ => ?_
  obtain ⟨y, hd, e1, e2⟩ := inv_shGet e
  obtain ⟨a0, dx, d0, hy, hσ⟩ := desk_rep n hd
  obtain ⟨g2, g3, kvs0, g4, g5⟩ := shelf_at n.sh hy
  refine ⟨.ref a0, hσ, a0, G.C, dx, _, .ref d0, rfl, g3, g.W.cls, g.W.sh, rfl, S, ρ, s, _, s', n, e1, fun w H1 f1 h1 r1 => ?_⟩
  obtain ⟨h2, h3, kvs, h4, h5⟩ := shelf_at h1 hy
  rcases shR_val (x := y) h5 with ⟨h6, _⟩ | ⟨d', v, h6, h7, h8⟩
  · rw [e2] at h6
    cases h6
  · rw [e2] at h6
    cases h6
    exact ⟨d0, v, rfl, .inl ⟨kvs, sK y, .inl h4, repStr r1, h7.symm⟩, (q.fr f1).now h1 h8⟩
end
end Pk
end
section
-- PkNow
set_option linter.all false
set_option maxRecDepth 100000
/-! How the place of an expression changes. -/
namespace Pk
open PySem PySem.Spec PyProof.Rows L2
section
variable {G : Gx} {S S' T T' : Addr → Prop} {ρ ρ' : En} {σ σ' : L2.St} {H H1 H' : Hp} {s s' : Sh}
/-- less of the heap held back -/
theorem Shf.less (h : Shf G S T H s) (hS : ∀ a, S a → S' a) (hT : ∀ a, T' a → T a) : Shf G S' T' H s := by
  unfold Shf at h ⊢
  split
  · rename_i q
    rw [q] at h
    exact h
  · rename_i a0 dx d0 q
    rw [q] at h
    obtain ⟨h1, h2, kvs, h3, h4⟩ := h
    exact ⟨hS _ h1, h2, kvs, h3, h4.mono (wo_less hT)⟩
/-- the shelf where the heap's other part has grown -/
theorem Shf.grow (h : Shf G S T H s) (hd : ∀ x, G.dk = some x → S' x.2.2) (e : Same (wo H T) (wo H' T')) (ha : ∀ x, G.dk = some x → H' x.1 = H x.1 ∧ H' x.2.2 = H x.2.2) : Shf G S' T' H' s := by
  unfold Shf at h ⊢
  split
  · rename_i q
    rw [q] at h
    exact h
  · rename_i a0 dx d0 q
    rw [q] at h
    obtain ⟨h1, h2, kvs, h3, h4⟩ := h
    obtain ⟨e1, e2⟩ := ha _ q
    exact ⟨hd _ q, e1.trans h2, kvs, e2.trans h3, h4.mono e⟩
theorem OwnRep.up {a : Addr} {d : D} {Hw Hw' : Hp} (h : OwnRep G H Hw a d) (e : H' a = H a) (w : Same Hw Hw') : OwnRep G H' Hw' a d := by
  cases d with
  | lst l =>
    obtain ⟨vs, e1, e2⟩ := h
    exact ⟨vs, e.trans e1, RepL.mono w l e2⟩
  | dic l => exact e.trans h
  | lev ks =>
    obtain ⟨xs, e1, e2, e3⟩ := h
    exact ⟨xs, e.trans e1, e2, fun p hp => (e3 p hp).mono w⟩
  | _ => exact h.elim
theorem eq_of_some {a : Addr} (h : H a ≠ none) (f : ∀ o, H a = some o → H' a = some o) : H' a = H a := by
  cases e : H a with
  | none => exact absurd e h
  | some o => exact f o e
theorem Now.dk (n : Now G S ρ σ H s) : ∀ x, G.dk = some x → S x.2.2 ∧ H x.1 ≠ none ∧ H x.2.2 ≠ none ∧ x.1 ≠ x.2.2 := fun x e => by
  obtain ⟨h1, h2, kvs, h3, _⟩ := shelf_at (a0 := x.1) (dx := x.2.1) (d0 := x.2.2) n.sh e
  refine ⟨h1, fun z => ?_, fun z => ?_, fun z => ?_⟩
  · rw [h2] at z
    cases z
  · rw [h3] at z
    cases z
  · rw [z, h3] at h2
    cases h2
/-- more is held back by the code around -/
theorem Now.gen (n : Now G S ρ σ H s) (hS : ∀ a, S a → S' a) (hN : ∀ a, S' a → S a ∨ H a = none) (f : Fr G H H') (dom : Dom S' H') (sh : Shf G S' (Tw S' ρ σ) H' s') : Now G S' ρ σ H' s' := by
  have w : Same (Pk.wo H (Tw S ρ σ)) (Pk.wo H' (Tw S' ρ σ)) := fun a o h => by
    obtain ⟨h1, h2⟩ := wo_some.mp h
    refine wo_some.mpr ⟨fun z => ?_, f a o (fun x e z => h1 (.inl (by rw [z]; exact (n.dk x e).1))) h2⟩
    rcases z with z | z
    · rcases hN a z with z | z
      · exact h1 (.inl z)
      · rw [h2] at z
        cases z
    · exact h1 (.inr z)
  have ne : ∀ a, Ow ρ σ a → ∀ x, G.dk = some x → a ≠ x.2.2 := fun a ha x e z => n.env.dis a ha (by rw [z]; exact (n.dk x e).1)
  refine ⟨⟨n.env.len, fun i d e => ?_, fun i d e => ?_, n.env.inj, fun a ha hs => ?_, dom⟩, sh⟩
  · obtain ⟨v, h1, h2⟩ := n.env.pur i d e
    exact ⟨v, h1, Rep.mono w d h2⟩
  · obtain ⟨a, h1, h2⟩ := n.env.own i d e
    exact ⟨a, h1, h2.up (eq_of_some h2.there fun o q => f a o (ne a ⟨i, d, e, h1⟩) q) w⟩
  · rcases hN a hs with z | z
    · exact n.env.dis a ha z
    · obtain ⟨i, d, e, h1⟩ := ha
      obtain ⟨b, h2, h3⟩ := n.env.own i d e
      rw [h1] at h2
      cases h2
      exact h3.there z
theorem getSet {α : Type} {l : List α} {i j : Nat} {x y : α} (h : (l.set i x)[j]? = some y) : (j = i ∧ i < l.length ∧ y = x) ∨ (j ≠ i ∧ l[j]? = some y) := by
  by_cases e : i = j
  · subst e
    by_cases hl : i < l.length
    · rw [List.getElem?_set_self hl] at h
      cases h
      exact .inl ⟨rfl, hl, rfl⟩
    · rw [List.getElem?_eq_none (by simpa using hl)] at h
      cases h
  · rw [List.getElem?_set_ne e] at h
    exact .inr ⟨fun z => e z.symm, h⟩
theorem setGet {α : Type} {l : List α} {i : Nat} (x : α) (h : i < l.length) : (l.set i x)[i]? = some x := List.getElem?_set_self h
/-- a slot forgotten or set to a value that is kept -/
theorem Ow.sub {i : Nat} {z : Sl} {v : Option V} (hz : ∀ d, z ≠ .o d) {a : Addr} (h : Ow (ρ.set i z) (σ.set i v) a) : Ow ρ σ a := by
  obtain ⟨j, d, h1, h2⟩ := h
  rcases getSet h1 with ⟨rfl, _, e⟩ | ⟨hj, h1⟩
  · exact absurd e.symm (hz d)
  · rcases getSet h2 with ⟨e, _⟩ | ⟨_, h2⟩
    · exact absurd e hj
    · exact ⟨j, d, h1, h2⟩
theorem Now.setZ (n : Now G S ρ σ H s) {i : Nat} {z : Sl} {v : Option V} (hz : ∀ d, z ≠ .o d) (hp : ∀ d, z = .p d → ∃ u, v = some u ∧ Rep G (Pk.wo H (Tw S ρ σ)) d u) : Now G S (ρ.set i z) (σ.set i v) H s := by
  have le : ∀ a, Tw S (ρ.set i z) (σ.set i v) a → Tw S ρ σ a := fun a h => h.elim .inl fun h => .inr (h.sub hz)
  have w := wo_less (H := H) le
  refine ⟨⟨by rw [List.length_set, List.length_set, n.env.len], fun j d e => ?_, fun j d e => ?_, fun j j' d d' a e1 e2 e3 e4 => ?_, fun a ha => n.env.dis a (ha.sub hz), n.env.dom⟩, n.sh.less (fun _ h => h) le⟩
  · rcases getSet e with ⟨rfl, hl, e⟩ | ⟨hj, e⟩
    · obtain ⟨u, rfl, h2⟩ := hp d e.symm
      exact ⟨u, setGet _ (by rw [n.env.len]; exact hl), Rep.mono w d h2⟩
    · obtain ⟨u, h1, h2⟩ := n.env.pur j d e
      exact ⟨u, by rw [List.getElem?_set_ne (Ne.symm hj)]; exact h1, Rep.mono w d h2⟩
  · rcases getSet e with ⟨rfl, hl, e⟩ | ⟨hj, e⟩
    · exact absurd e.symm (hz d)
    · obtain ⟨a, h1, h2⟩ := n.env.own j d e
      exact ⟨a, by rw [List.getElem?_set_ne (Ne.symm hj)]; exact h1, h2.up rfl w⟩
  · rcases getSet e1 with ⟨rfl, hl, e⟩ | ⟨hj, e1⟩
    · exact absurd e.symm (hz d)
    rcases getSet e2 with ⟨rfl, hl, e⟩ | ⟨hj', e2⟩
    · exact absurd e.symm (hz d')
    rw [List.getElem?_set_ne (Ne.symm hj)] at e3
    rw [List.getElem?_set_ne (Ne.symm hj')] at e4
    exact n.env.inj j j' d d' a e1 e2 e3 e4
theorem Now.setP (n : Now G S ρ σ H s) {i : Nat} {d : D} {v : V} (r : Rep G (Pk.wo H (Tw S ρ σ)) d v) : Now G S (ρ.set i (.p d)) (σ.set i (some v)) H s :=
  n.setZ (fun d' => by intro z; cases z) fun d' e => by
    cases e
    exact ⟨v, rfl, r⟩
theorem Now.wipe (n : Now G S ρ σ H s) : ∀ vs : List Nat, Now G S (wipeE ρ vs) (L2.wipe σ vs) H s
  | [] => n
  | v :: vs => (Now.wipe n vs).setZ (fun d' => by intro z; cases z) fun d' e => by cases e
theorem Ow.set_ne {i : Nat} {z : Sl} {v : Option V} (h : ∀ d, ρ[i]? ≠ some (.o d)) {a : Addr} (ha : Ow ρ σ a) : Ow (ρ.set i z) (σ.set i v) a := by
  obtain ⟨j, d, h1, h2⟩ := ha
  have e : i ≠ j := fun e => h d (by rw [e]; exact h1)
  exact ⟨j, d, by rw [List.getElem?_set_ne e]; exact h1, by rw [List.getElem?_set_ne e]; exact h2⟩
theorem wipeE_get : ∀ {vs : List Nat} {j : Nat} {d : D}, (wipeE ρ vs)[j]? = some (.o d) → ρ[j]? = some (.o d)
  | [], _, _, h => h
  | v :: vs, j, d, h => by
    rcases getSet (l := wipeE ρ vs) h with ⟨_, _, e⟩ | ⟨_, h⟩
    · cases e
    · exact wipeE_get h
theorem Ow.wipe : ∀ {vs : List Nat}, noOwn ρ vs = true → ∀ {a : Addr}, Ow ρ σ a → Ow (wipeE ρ vs) (L2.wipe σ vs) a
  | [], _, _, h => h
  | v :: vs, hn, a, h => by
    unfold noOwn at hn
    rw [List.all_cons, Bool.and_eq_true] at hn
    refine Ow.set_ne (ρ := wipeE ρ vs) (σ := L2.wipe σ vs) (fun d e => ?_) (Ow.wipe (vs := vs) hn.2 h)
    have e2 := wipeE_get e
    have h1 := hn.1
    rw [e2] at h1
    cases h1
theorem Ow.unwipe : ∀ {vs : List Nat} {a : Addr}, Ow (wipeE ρ vs) (L2.wipe σ vs) a → Ow ρ σ a
  | [], _, h => h
  | v :: vs, a, h => Ow.unwipe (vs := vs) (Ow.sub (ρ := wipeE ρ vs) (σ := L2.wipe σ vs) (z := .un) (fun d' => by intro z; cases z) h)
end
end Pk
end
section
-- PkIter
set_option linter.all false
set_option maxRecDepth 100000
/-! What is walked; targets. -/
namespace Pk
open PySem PySem.Spec PyProof.Rows L2
/-- J walks xs -/
def Wlk (G : Gx) (T : Addr → Prop) (J : It) (xs : List D) (H0 : Hp) : Prop := ∀ H T', Same (wo H0 T) (wo H T') → Dom T' H →
  (∀ i d, xs[i]? = some d → J.go i H ∧ ∀ x H', J.yld i H x H' → Same H H' ∧ Rep G (wo H' T') d x) ∧ J.stop xs.length H
section
variable (G : Gx) (cl : Cl)
def wdI (m : MI) : TI := fun σ H R => ∃ S ρ s xs s', Now G S ρ σ H s ∧ evI cl m ρ s = some (xs, s') ∧ ∀ J H', Fr G H H' → Shf G S (Tw S ρ σ) H' s' → Wlk G (Tw S ρ σ) J xs H' → R J H'
end
section
variable {G : Gx} {T : Addr → Prop} {H : Hp}
theorem wlk_lst {a : Addr} {vs : List V} {l : List D} {K : PySem.W.Frag} (hK : K = G.K) (h : wo H T a = some (.lst vs)) (r : RepL G (wo H T) l vs) : Wlk G T (Itl K a) l H := fun H' T' w hT => by
  have h' := (wo_same H' T') _ _ (w _ _ h)
  have hl := r.len
  refine ⟨fun i d e => ?_, vs, .of h', by omega⟩
  obtain ⟨v, e1, e2⟩ := r.get e
  refine ⟨⟨vs, v, .of h', e1⟩, fun x H2 hy => ?_⟩
  obtain ⟨rfl, hy⟩ := hy
  have e3 := hy vs (.of h')
  rw [e1] at e3
  cases e3
  exact ⟨Same.refl _, Rep.mono w d e2⟩
theorem wlk_tup {a : Addr} {vs : List V} {l : List D} {K : PySem.W.Frag} (hK : K = G.K) (h : SqT G.K (wo H T) a vs) (r : RepL G (wo H T) l vs) : Wlk G T (Itt K a) l H := fun H' T' w hT => by
  have h' : SqT K H' a vs := by
    rw [hK]
    exact Same.sqt (wo_same H' T') (Same.sqt w h)
  have hl := r.len
  refine ⟨fun i d e => ?_, vs, h', by omega⟩
  obtain ⟨v, e1, e2⟩ := r.get e
  refine ⟨⟨vs, v, h', e1⟩, fun x H2 hy => ?_⟩
  obtain ⟨rfl, hy⟩ := hy
  have e3 := hy vs h'
  rw [e1] at e3
  cases e3
  exact ⟨Same.refl _, Rep.mono w d e2⟩
theorem wlk_str {l : List Nat} : Wlk G T (Its ⟨l.toArray⟩) (l.map fun c => .str [c]) H := fun H' T' w hT => by
  refine ⟨fun i d e => ?_, ?_⟩
  · rw [List.getElem?_map] at e
    obtain ⟨c, e1, rfl⟩ := Option.map_eq_some_iff.mp e
    refine ⟨?_, fun x H2 hy => ?_⟩
    · show i < l.toArray.size
      rw [List.size_toArray]
      exact (List.getElem?_eq_some_iff.mp e1).1
    · obtain ⟨rfl, c', e2, rfl⟩ := hy
      have e3 : l.toArray[i]? = some c' := e2
      rw [List.getElem?_toArray, e1] at e3
      cases e3
      exact ⟨Same.refl _, by unfold Rep; rfl⟩
  · show l.toArray.size ≤ (l.map _).length
    rw [List.size_toArray, List.length_map]
    exact Nat.le_refl _
theorem rng_get {n : Nat} {f : Nat → D} {i : Nat} {d : D} (e : ((List.range n).map f)[i]? = some d) : i < n ∧ d = f i := by
  rw [List.getElem?_map] at e
  obtain ⟨c, e1, rfl⟩ := Option.map_eq_some_iff.mp e
  obtain ⟨h1, h2⟩ := List.getElem?_eq_some_iff.mp e1
  rw [List.getElem_range] at h2
  subst h2
  exact ⟨by simpa using h1, rfl⟩
theorem wlk_rng {a b : Int} : Wlk G T (Itr a (b - a).toNat) (rngL a b) H := fun H' T' w hT => by
  refine ⟨fun i d e => ?_, ?_⟩
  · obtain ⟨h1, rfl⟩ := rng_get e
    refine ⟨h1, fun x H2 hy => ?_⟩
    obtain ⟨rfl, rfl⟩ := hy
    exact ⟨Same.refl _, by unfold Rep; rfl⟩
  · show _ ≤ ((List.range _).map _).length
    rw [List.length_map, List.length_range]
    exact Nat.le_refl _
theorem wlk_rngC {a b c : Int} : Wlk G T (Itc a c ((b - a + c - 1) / c).toNat) (rngC a b c) H := fun H' T' w hT => by
  refine ⟨fun i d e => ?_, ?_⟩
  · obtain ⟨h1, rfl⟩ := rng_get e
    refine ⟨h1, fun x H2 hy => ?_⟩
    obtain ⟨rfl, rfl⟩ := hy
    exact ⟨Same.refl _, by unfold Rep; rfl⟩
  · show _ ≤ ((List.range _).map _).length
    rw [List.length_map, List.length_range]
    exact Nat.le_refl _
theorem zipD_get : ∀ {u v : List D} {i : Nat} {d : D}, (zipD u v)[i]? = some d → ∃ x y, u[i]? = some x ∧ v[i]? = some y ∧ d = .tup [x, y]
  | [], _, _, _, e => by simp [zipD] at e
  | _ :: _, [], _, _, e => by simp [zipD] at e
  | x :: u, y :: v, 0, d, e => by
    simp [zipD] at e
    exact ⟨x, y, rfl, rfl, e.symm⟩
  | x :: u, y :: v, i + 1, d, e => by
    simp only [zipD, List.getElem?_cons_succ] at e ⊢
    exact zipD_get e
theorem zipD_len : ∀ (u v : List D), u.length ≤ (zipD u v).length ∨ v.length ≤ (zipD u v).length
  | [], _ => .inl (Nat.zero_le _)
  | _ :: _, [] => .inr (Nat.zero_le _)
  | x :: u, y :: v => by
    simp only [zipD, List.length_cons]
    rcases zipD_len u v with h | h
    · exact .inl (by omega)
    · exact .inr (by omega)
theorem wlk_zip {a b : Addr} {vs ws : List V} {u v : List D} {K : PySem.W.Frag} (hK : K = G.K) (h : SqT G.K (wo H T) a vs) (r : RepL G (wo H T) u vs) (h2 : SqT G.K (wo H T) b ws) (r2 : RepL G (wo H T) v ws) : Wlk G T (RZ.ItzT K a b) (zipD u v) H := fun H' T' w hT => by
  have h' : SqT K H' a vs := by
    rw [hK]
    exact Same.sqt (wo_same H' T') (Same.sqt w h)
  have h2' : SqT K H' b ws := by
    rw [hK]
    exact Same.sqt (wo_same H' T') (Same.sqt w h2)
  have hl := r.len
  have hl2 := r2.len
  refine ⟨fun i d e => ?_, vs, ws, h', h2', ?_⟩
  · obtain ⟨x, y, e1, e2, rfl⟩ := zipD_get e
    obtain ⟨vx, e3, e4⟩ := r.get e1
    obtain ⟨vy, e5, e6⟩ := r2.get e2
    refine ⟨⟨vs, ws, vx, vy, h', h2', e3, e5⟩, fun z H2 hy => ?_⟩
    obtain ⟨t, x', y', rfl, ht, rfl, hx, hy⟩ := hy
    have e7 := hx vs h'
    rw [e3] at e7
    cases e7
    have e8 := hy ws h2'
    rw [e5] at e8
    cases e8
    have w2 : Same (wo H' T') (wo (upd H' t (.tup [vx, vy])) T') := wo_same2 (same_new ht)
    refine ⟨same_new ht, ?_⟩
    unfold Rep
    exact ⟨t, _, rfl, .of (wo_new hT ht), RepL.cons (Rep.mono w2 x (Rep.mono w x e4)) (RepL.cons (Rep.mono w2 y (Rep.mono w y e6)) RepL.nil)⟩
  · rw [← hl, ← hl2]
    exact zipD_len u v
end
section
variable {G : Gx} {cl : Cl} {k : Nat} {sc : Scope} {N : List PySem.Str} {X : Cx} {tg : Expr}
theorem items_cases {x : D} {l : List D} (h : itemsD x = some l) : x = .lst l ∨ x = .tup l ∨ ∃ z, x = .str z ∧ l = z.map fun c => .str [c] := by
  unfold itemsD at h
  split at h
  · cases h; exact .inl rfl
  · cases h; exact .inr (.inl rfl)
  · cases h; exact .inr (.inr ⟨_, rfl, rfl⟩)
  · cases h
theorem PI.or {tg e : Expr} {t t' : TI} (h : PI X tg e t) (h' : PI X tg e t') : PI X tg e (fun σ H R => t σ H R ∨ t' σ H R) := ⟨fun pins s σ H Q I q => q.elim (h.run pins s σ H Q I) (h'.run pins s σ H Q I)⟩
theorem s_val (g : Gd G cl k sc N X) {a : ME} {A : Expr} (ha : PE X A (wd G cl a)) : PI X tg A (wdI G cl (.val a)) := by
  refine PI.imp (PI.or (pi_list ha) (PI.or (pi_tup ha) (pi_str ha))) fun σ H R ⟨S, ρ, s, xs, s', n, e, q⟩ => ?_
  obtain ⟨x, e1, e2⟩ := inv_val e
  rcases items_cases e2 with rfl | rfl | ⟨z, rfl, rfl⟩
  · refine .inl ⟨S, ρ, s, _, s', n, e1, fun v H1 f1 h1 r1 => ?_⟩
    unfold Rep at r1
    obtain ⟨b, vs, rfl, h2, h3⟩ := r1
    exact ⟨b, rfl, ⟨vs, .of ((wo_same _ _) _ _ h2)⟩, q _ _ f1 h1 (wlk_lst g.C.K h2 h3)⟩
  · refine .inr (.inl ⟨S, ρ, s, _, s', n, e1, fun v H1 f1 h1 r1 => ?_⟩)
    unfold Rep at r1
    obtain ⟨b, vs, rfl, h2, h3⟩ := r1
    exact ⟨b, rfl, ⟨vs, by rw [g.C.K]; exact Same.sqt (wo_same _ _) h2⟩, q _ _ f1 h1 (wlk_tup g.C.K h2 h3)⟩
  · exact .inr (.inr ⟨S, ρ, s, _, s', n, e1, fun v H1 f1 h1 r1 => ⟨_, repStr r1, q _ _ f1 h1 wlk_str⟩⟩)
theorem small_of {i : Int} (h : small? i = true) : -1000000 < i ∧ i < 1000000 := of_decide_eq_true h
theorem repInt {H : Hp} {i : Int} {v : V} (h : Rep G H (.int i) v) : v = .int i := h
theorem s_r1 (g : Gd G cl k sc N X) {a : ME} {A : Expr} {p pos : Pos} (h : glC sc "range" = true) (hp : plainA A = true) (ha : PE X A (wd G cl a)) : PI X tg (.Call (.Name "range" p) [A] [] pos) (wdI G cl (.r1 a)) := by
  refine PI.imp (pi_range1 (gl_of g h).1 (bl_none g (by decide)) (one_pa hp ha) (plain_star hp)) fun σ H R ⟨S, ρ, s, xs, s', n, e, q⟩ => ?_
  obtain ⟨i, e1, hs, rfl⟩ := inv_r1 e
  have hs := small_of hs
  refine ⟨S, ρ, s, _, s', n, e1, fun v H1 f1 h1 r1 => ⟨i, by rw [repInt r1], by omega, by omega, ?_⟩⟩
  have e2 : i.toNat = (i - 0).toNat := by rw [Int.sub_zero]
  rw [e2]
  exact q _ _ f1 h1 wlk_rng
theorem s_r2 (g : Gd G cl k sc N X) {a b : ME} {A B : Expr} {p pos : Pos} (h : glC sc "range" = true) (hp : plainA A = true) (hq : plainA B = true) (ha : PE X A (wd G cl a)) (hb : PE X B (wd G cl b)) : PI X tg (.Call (.Name "range" p) [A, B] [] pos) (wdI G cl (.r2 a b)) := by
  refine PI.imp (pi_range2 (gl_of g h).1 (bl_none g (by decide)) (pa_cons ha (one_pa hq hb) (plain_star hp)) ((plain_star hp).trans (by rw [plain_star hq]; rfl)) (plain_star hq)) fun σ H R ⟨S, ρ, s, xs, s', n, e, q⟩ => ?_
  obtain ⟨i, s1, j, e1, e2, h1, h2, rfl⟩ := inv_r2 e
  have h1 := small_of h1
  have h2 := small_of h2
  refine ⟨S, ρ, s, _, s1, n, e1, fun v H1 f1 sh1 r1 => ⟨S, ρ, s1, _, s', n.fr f1 sh1, e2, fun u H2 f2 sh2 r2 => ⟨i, j, by rw [repInt r1, repInt r2], ⟨by omega, by omega, by omega, by omega⟩, q _ _ (f1.trans f2) sh2 wlk_rng⟩⟩⟩
theorem rgC_up {i j c : Int} (h1 : -1000000 < i ∧ i < 1000000) (h2 : -1000000 < j ∧ j < 1000000) (h3 : 0 < c) (h4 : c < 1000) : RgC i j c ((j - i + c - 1) / c).toNat := by
  have key : Builtin.Range.rangeSize i j c = (((j - i + c - 1) / c).toNat : Int) := by
    unfold Builtin.Range.rangeSize
    rw [if_pos h3]
    have e : (j - i + c - 1) / c = (j - i - 1) / c + 1 := by
      have e0 : j - i + c - 1 = (j - i - 1) + c * 1 := by omega
      rw [e0, Int.add_mul_ediv_left _ _ (by omega)]
    by_cases hij : i < j
    · rw [if_pos hij]
      have h5 : 0 ≤ (j - i - 1) / c := Int.ediv_nonneg (by omega) (by omega)
      rw [e]
      omega
    · rw [if_neg hij]
      have h5 : (j - i - 1) / c < 0 := Int.ediv_neg_of_neg_of_pos (by omega) h3
      rw [e]
      omega
  have le : (((j - i + c - 1) / c).toNat : Int) ≤ 3000000 := by
    have h5 : (j - i + c - 1) / c ≤ 3000000 := Int.ediv_le_of_le_mul h3 (by
      have : (3000000 : Int) * 1 ≤ 3000000 * c := Int.mul_le_mul_of_nonneg_left (by omega) (by omega)
      omega)
    omega
  refine ⟨by omega, by omega, ?_, key⟩
  unfold Builtin.Range.small
  rw [key]
  generalize (((j - i + c - 1) / c).toNat) = m at le
  simp only [Builtin.Range.rangeFitsLong, Bool.and_eq_true, Bool.or_eq_true, decide_eq_true_eq, beq_iff_eq]
  rw [if_pos h3]
  simp only [Bool.and_eq_true, decide_eq_true_eq]
  omega
theorem s_r3 (g : Gd G cl k sc N X) {a b c : ME} {A B C : Expr} {p pos : Pos} (h : glC sc "range" = true) (hp : plainA A = true) (hq : plainA B = true) (hr : plainA C = true) (ha : PE X A (wd G cl a)) (hb : PE X B (wd G cl b)) (hc : PE X C (wd G cl c)) :
    PI X tg (.Call (.Name "range" p) [A, B, C] [] pos) (wdI G cl (.r3 a b c)) := by
  refine PI.imp (pi_range3 (gl_of g h).1 (bl_none g (by decide)) (pa_cons ha (pa_cons hb (one_pa hr hc) (plain_star hq)) (plain_star hp)) (plain_star hp) (plains_any (by simp [hq, hr]))) fun σ H R ⟨S, ρ, s, xs, s', n, e, q⟩ => ?_
  obtain ⟨i, s1, j, s2, z, e1, e2, e3, h1, h2, h3, h4, rfl⟩ := inv_r3 e
  refine ⟨S, ρ, s, _, s1, n, e1, fun v H1 f1 sh1 r1 => ⟨S, ρ, s1, _, s2, n.fr f1 sh1, e2, fun u H2 f2 sh2 r2 => ⟨S, ρ, s2, _, s', (n.fr f1 sh1).fr f2 sh2, e3, fun t H3 f3 sh3 r3 =>
    ⟨i, j, z, _, by rw [repInt r1, repInt r2, repInt r3], rgC_up (small_of h1) (small_of h2) h3 h4, q _ _ ((f1.trans f2).trans f3) sh3 wlk_rngC⟩⟩⟩⟩
end
end Pk
end
section
-- PkTgt
set_option linter.all false
set_option maxRecDepth 100000
/-! Targets; comprehensions. -/
namespace Pk
open PySem PySem.Spec PyProof.Rows L2
def gL : List Nat → TGs
  | [] => gNil
  | i :: r => gCons (gName i) (gL r)
def gT (K : PySem.W.Frag) : MT → TG
  | .one i => gName i
  | .many l => gTup K l.length (gL l)
def chkL (N : List PySem.Str) (ok : PySem.Str → Bool) : List Nat → List Expr → Bool
  | [], [] => true
  | i :: is, e :: es => (match e with | .Name x _ => decide (N[i]? = some x) && ok x | _ => false) && chkL N ok is es
  | _, _ => false
def chkT (N : List PySem.Str) (ok : PySem.Str → Bool) (t : MT) (e : Expr) : Bool := match t with
  | .one i => match e with | .Name x _ => decide (N[i]? = some x) && ok x | _ => false
  | .many l => match e with | .Tuple es _ _ => chkL N ok l es | _ => false
section
variable {X : Cx} {N : List PySem.Str} {ok : PySem.Str → Bool}
def OkN (X : Cx) (ok : PySem.Str → Bool) : Prop := ∀ x, ok x = true → Loc X.env.scope x ∧ (X.fn x = true ∨ X.env.scope.names.lookup x = some .local)
theorem chkL_len : ∀ {l : List Nat} {es : List Expr} {env : PySem.Env}, chkL N ok l es = true → (assignEach es env).length = l.length ∧ (assignEach es env).findIdx? (·.1) = none
  | [], [], _, _ => ⟨rfl, rfl⟩
  | [], _ :: _, _, h => by cases h
  | _ :: _, [], _, h => by cases h
  | i :: is, e :: es, env, h => by
    unfold chkL at h
    rw [Bool.and_eq_true] at h
    obtain ⟨h1, h2⟩ := chkL_len (env := env) h.2
    have h0 := h.1
    split at h0
    · refine ⟨by show _ + 1 = _ + 1; rw [h1], ?_⟩
      show List.findIdx? (·.1) ((false, _) :: assignEach es env) = none
      rw [List.findIdx?_cons]
      simp [h2]
    · cases h0
theorem chkL_pg (hN : X.N = N) (nd : N.Nodup) (o : OkN X ok) : ∀ {l : List Nat} {es : List Expr}, chkL N ok l es = true → PGs X es (gL l)
  | [], [], _ => pgs_nil
  | [], _ :: _, h => by cases h
  | _ :: _, [], h => by cases h
  | i :: is, e :: es, h => by
    unfold chkL at h
    rw [Bool.and_eq_true] at h
    have h0 := h.1
    split at h0
    · rename_i x p
      rw [Bool.and_eq_true] at h0
      obtain ⟨o1, o2⟩ := o x h0.2
      exact pgs_cons (pg_name (by rw [hN]; exact nd) (by rw [hN]; exact of_decide_eq_true h0.1) o1 o2) (chkL_pg hN nd o h.2)
    · cases h0
theorem chkT_pg (hc : X.calm = true) (hN : X.N = N) (nd : N.Nodup) (o : OkN X ok) {t : MT} {e : Expr} (h : chkT N ok t e = true) : PG X e (gT X.K t) := by
  unfold chkT at h
  cases t with
  | one i =>
    simp only at h
    split at h
    · rename_i x p
      rw [Bool.and_eq_true] at h
      obtain ⟨o1, o2⟩ := o x h.2
      exact pg_name (by rw [hN]; exact nd) (by rw [hN]; exact of_decide_eq_true h.1) o1 o2
    · cases h
  | many l =>
    simp only at h
    split at h
    · rename_i es k p
      obtain ⟨h1, h2⟩ := chkL_len (env := X.env) h
      exact pg_tup hc (chkL_pg hN nd o h) h1 h2
    · cases h
end
/-- σ' is σ with slots of l set -/
def Sets (l : List Nat) (σ σ' : L2.St) : Prop := ∀ vs : List Nat, (∀ i ∈ l, i ∈ vs) → L2.wipe σ' vs = L2.wipe σ vs
theorem wipe_get (σ : L2.St) (vs : List Nat) (j : Nat) : (L2.wipe σ vs)[j]? = if j ∈ vs ∧ j < σ.length then some none else σ[j]? := by
  induction vs with
  | nil => simp [L2.wipe]
  | cons v vs ih =>
    unfold L2.wipe
    rw [List.getElem?_set]
    rw [wipe_length]
    by_cases hv : v = j
    · subst hv
      rw [if_pos rfl]
      by_cases hl : v < σ.length
      · rw [if_pos hl, if_pos ⟨List.mem_cons_self, hl⟩]
      · rw [if_neg hl, if_neg fun z => hl z.2, List.getElem?_eq_none (by omega)]
    · rw [if_neg hv, ih]
      have e : (j ∈ v :: vs) = (j ∈ vs) := by
        rw [List.mem_cons]
        exact propext ⟨fun z => z.elim (fun q => absurd q.symm hv) id, .inr⟩
      simp only [e]
theorem wipe_set {σ : L2.St} {vs : List Nat} {i : Nat} {v : Option V} (h : i ∈ vs) : L2.wipe (σ.set i v) vs = L2.wipe σ vs := by
  refine List.ext_getElem? fun j => ?_
  rw [wipe_get, wipe_get, List.length_set]
  by_cases c : j ∈ vs ∧ j < σ.length
  · rw [if_pos c, if_pos c]
  · rw [if_neg c, if_neg c]
    by_cases e : i = j
    · subst e
      have hl : ¬ i < σ.length := fun z => c ⟨h, z⟩
      rw [List.getElem?_eq_none (by simpa using hl), List.getElem?_eq_none (by omega)]
    · rw [List.getElem?_set_ne e]
theorem wipe_wipe (σ : L2.St) (vs : List Nat) : L2.wipe (L2.wipe σ vs) vs = L2.wipe σ vs := by
  refine List.ext_getElem? fun j => ?_
  rw [wipe_get, wipe_get, wipe_length]
  by_cases c : j ∈ vs ∧ j < σ.length
  · rw [if_pos c, if_pos c]
  · rw [if_neg c, if_neg c]
section
variable {G : Gx} {S : Addr → Prop} {H : Hp} {s : Sh}
theorem bindMany_ok : ∀ {l : List Nat} {ds : List D} {ρ ρ' : En} {σ : L2.St} {vs : List V} {Q : L2.St → Hp → Prop}, bindMany l ds ρ = some ρ' → Now G S ρ σ H s → RepL G (wo H (Tw S ρ σ)) ds vs →
    (∀ σ', Now G S ρ' σ' H s → Sets l σ σ' → (∀ a, Ow ρ' σ' a → Ow ρ σ a) → ((∀ i ∈ l, ∀ d, ρ[i]? ≠ some (.o d)) → ∀ a, Ow ρ σ a → Ow ρ' σ' a) → Q σ' H) → vs.length = l.length ∧ gL l vs σ H Q
  | [], [], ρ, ρ', σ, vs, Q, e, n, r, q => by
    cases e
    have e2 : vs = [] := r
    subst e2
    exact ⟨rfl, rfl, q σ n (fun _ _ => rfl) (fun _ h => h) fun _ _ h => h⟩
  | [], _ :: _, _, _, _, _, _, e, _, _, _ => by cases e
  | _ :: _, [], _, _, _, _, _, e, _, _, _ => by cases e
  | i :: is, d :: ds, ρ, ρ', σ, vs, Q, e, n, r, q => by
    unfold RepL at r
    obtain ⟨v, ws, rfl, r1, r2⟩ := r
    have sub : ∀ a, Ow (ρ.set i (.p d)) (σ.set i (some v)) a → Ow ρ σ a := fun a h => h.sub fun d' z => by cases z
    have le : ∀ a, Tw S (ρ.set i (.p d)) (σ.set i (some v)) a → Tw S ρ σ a := fun a h => h.elim .inl fun h => .inr (sub a h)
    obtain ⟨h1, h2⟩ := bindMany_ok (l := is) (ds := ds) (ρ := ρ.set i (.p d)) (Q := Q) e (n.setP r1) (RepL.mono (wo_less le) ds r2) fun σ' n' st sb bs => q σ' n' (fun vs hv => (st vs fun j hj => hv j (List.mem_cons_of_mem _ hj)).trans (wipe_set (hv i List.mem_cons_self))) (fun a h => sub a (sb a h)) fun hn a h => bs (fun j hj d' z => by
      rcases getSet z with ⟨_, _, z⟩ | ⟨_, z⟩
      · cases z
      · exact hn j (List.mem_cons_of_mem _ hj) d' z) a (h.set_ne (hn i List.mem_cons_self))
    exact ⟨by simp [h1], v, ws, rfl, h2⟩
theorem bindT_ok {K : PySem.W.Frag} {t : MT} {d : D} {ρ ρ' : En} {σ : L2.St} {v : V} {Q : L2.St → Hp → Prop} (hK : K = G.K) (e : bindT t d ρ = some ρ') (n : Now G S ρ σ H s) (r : Rep G (wo H (Tw S ρ σ)) d v)
    (q : ∀ σ', Now G S ρ' σ' H s → Sets (tsl t) σ σ' → (∀ a, Ow ρ' σ' a → Ow ρ σ a) → ((∀ i ∈ tsl t, ∀ d, ρ[i]? ≠ some (.o d)) → ∀ a, Ow ρ σ a → Ow ρ' σ' a) → Q σ' H) : gT K t v σ H Q := by
  unfold bindT at e
  split at e
  · cases e
    exact q _ (n.setP r) (fun vs hv => wipe_set (hv _ List.mem_cons_self)) (fun a h => h.sub fun d' z => by cases z) fun hn a h => h.set_ne (hn _ List.mem_cons_self)
  · unfold Rep at r
    obtain ⟨a, vs, rfl, h1, h2⟩ := r
    obtain ⟨h3, h4⟩ := bindMany_ok e n h2 q
    exact ⟨a, vs, rfl, by rw [hK]; exact Same.sqt (wo_same _ _) h1, h3, h4⟩
  · cases e
end
end Pk
end
section
-- PkComp
set_option linter.all false
set_option maxRecDepth 100000
/-! Comprehensions. -/
namespace Pk
open PySem PySem.Spec PyProof.Rows L2
def tT (G : Gx) (cl : Cl) (tst : Bool) (c : ME) : TT := if tst = true then wdT G cl c else tYes
section
variable {G : Gx} {cl : Cl} {S S' T T' : Addr → Prop} {ρ ρ' : En} {σ σ' : L2.St} {H H1 H' : Hp} {s s' : Sh}
theorem dom_fr (d : Dom S H1) (f : Fr G H1 H) (h : Shf G S' T' H s) : Dom S H := fun a ha => by
  by_cases hx : ∀ x, G.dk = some x → a ≠ x.2.2
  · rw [eq_of_some (d a ha) fun o q => f a o hx q]
    exact d a ha
  · obtain ⟨x, hx⟩ := Classical.not_forall.mp hx
    obtain ⟨e, hx⟩ := Classical.not_imp.mp hx
    have hx := Classical.not_not.mp hx
    obtain ⟨_, _, kvs, h3, _⟩ := shelf_at (a0 := x.1) (dx := x.2.1) (d0 := x.2.2) h e
    rw [hx, h3]
    exact fun z => by cases z
theorem wo_upd {a : Addr} {o : HO} (h : T a) : wo (upd H a o) T = wo H T := by
  funext b
  unfold wo
  by_cases hb : T b
  · simp [hb]
  · have e : b ≠ a := fun z => hb (by rw [z]; exact h)
    simp only [hb, if_false]
    exact upd_ne e
theorem fr_keep (n : Now G S ρ σ H s) (f : Fr G H H') {a : Addr} {o : HO} (e : H a = some o) (hd : ∀ kvs, o ≠ .dK kvs) : H' a = some o := f a o (n.sh.ne e hd) e
theorem noOwn_wipe {vs : List Nat} (h : noOwn ρ vs = true) : ∀ i ∈ vs, ∀ d, (wipeE ρ vs)[i]? ≠ some (.o d) := fun i hi d e => by
  have e2 := wipeE_get e
  unfold noOwn at h
  have h1 := List.all_eq_true.mp h i hi
  rw [e2] at h1
  cases h1
theorem lc_key {K : PySem.W.Frag} (hK : K = G.K) {tst : Bool} {elt c : ME} {t : MT} {it : MI} {Q : VK} (ht : tst = false → c = .bl true) (h : wd G cl (.comp tst elt t it c) σ H Q) :
    tLc (wdI G cl it) (gT K t) (tT G cl tst c) (wd G cl elt) (tsl t) σ H Q := by
  obtain ⟨S, ρ, s, d, s', n, e, q⟩ := h
  obtain ⟨xs, s1, l, e1, e2, e3, e4, rfl⟩ := inv_comp e
  refine ⟨S, ρ, s, xs, s1, n, e1, fun J H1 f1 h1 wk => ?_⟩
  intro Dd hD
  have n1 := n.fr f1 h1
  generalize hS' : (fun a => S a ∨ a = Dd) = S'
  have sS : ∀ a, S a → S' a := fun a h => by rw [← hS']; exact .inl h
  have sN : ∀ a, S' a → S a ∨ H1 a = none := fun a h => by
    rw [← hS'] at h
    exact h.imp id fun z => by rw [z]; exact hD
  have sD : S' Dd := by rw [← hS']; exact .inr rfl
  have sI : ∀ a, S' a → S a ∨ a = Dd := fun a h => by rw [← hS'] at h; exact h
  have nD : ¬ Tw S ρ σ Dd := fun z => n1.env.domT Dd z hD
  have ne0 : ∀ x, G.dk = some x → x.1 ≠ Dd ∧ x.2.2 ≠ Dd := fun x hx => by
    obtain ⟨_, h2, h3, _⟩ := n1.dk x hx
    exact ⟨fun z => h2 (by rw [z]; exact hD), fun z => h3 (by rw [z]; exact hD)⟩
  -- what is at a turn
  have now : ∀ {H : Hp} {si : Sh} {vs : List V}, H Dd = some (.lst vs) → Fr G H1 H → Shf G S' (Tw S' ρ σ) H si → Now G S' ρ σ H si := fun {H si vs} hv hf hsh => n1.gen sS sN hf (fun a ha => by
    rcases sI a ha with z | z
    · exact dom_fr n1.env.dom hf hsh a z
    · rw [z, hv]
      exact fun z => by cases z) hsh
  have same : ∀ {H : Hp}, Fr G H1 H → Same (wo H1 (Tw S ρ σ)) (wo H (Tw S' ρ σ)) := fun {H} hf a o h => by
    obtain ⟨h1, h2⟩ := wo_some.mp h
    refine wo_some.mpr ⟨fun z => ?_, hf a o (fun x e z => h1 (.inl (by rw [z]; exact (n1.dk x e).1))) h2⟩
    rcases z with z | z
    · rcases sN a z with z | z
      · exact h1 (.inl z)
      · rw [h2] at z
        cases z
    · exact h1 (.inr z)
  have eT : Tw S' (wipeE ρ (tsl t)) (L2.wipe σ (tsl t)) = Tw S' ρ σ := funext fun a => propext ⟨fun z => z.imp id fun z => z.unwipe, fun z => z.imp id fun z => z.wipe e2⟩
  refine ⟨fun i m H => m = xs.length - i ∧ i ≤ xs.length ∧ ∃ si done rest vs, compL (compF cl ρ elt t c) (xs.drop i) si = some (rest, s') ∧ l = done ++ rest ∧ done.length ≤ i ∧ H Dd = some (.lst vs) ∧ RepL G (wo H (Tw S' ρ σ)) done vs ∧ Fr G H1 H ∧ Shf G S' (Tw S' ρ σ) H si, ⟨xs.length, rfl, Nat.zero_le _, s1, [], l, [], e4, rfl, Nat.le_refl _, upd_same, RepL.nil, .of (same_new hD), ?_⟩, ?_⟩
  · refine h1.grow (fun x hx => sS _ (n1.dk x hx).1) (same (.of (same_new hD))) fun x hx => ⟨upd_ne (ne0 x hx).1, upd_ne (ne0 x hx).2⟩
  rintro i m H2 ⟨rfl, hi, si, done, rest, vs, ec, el, hl, hv, hr, hf, hsh⟩
  have nI := now hv hf hsh
  obtain ⟨wk1, wk2⟩ := wk H2 (Tw S' ρ σ) (same hf) nI.env.domT
  by_cases hlt : i < xs.length
  · have ed : xs.drop i = xs[i] :: xs.drop (i + 1) := List.drop_eq_getElem_cons hlt
    rw [ed] at ec
    obtain ⟨o, s2, l', ef, er, rfl⟩ := inv_compL ec
    obtain ⟨go, yl⟩ := wk1 i xs[i] (by simp [hlt])
    refine .inr ⟨go, fun H => ∃ si done rest vs, compL (compF cl ρ elt t c) (xs.drop (i + 1)) si = some (rest, s') ∧ l = done ++ rest ∧ done.length ≤ i + 1 ∧ H Dd = some (.lst vs) ∧ RepL G (wo H (Tw S' ρ σ)) done vs ∧ Fr G H1 H ∧ Shf G S' (Tw S' ρ σ) H si,
      fun H' p' => ⟨xs.length - (i + 1), by omega, rfl, hlt, p'⟩, fun x H3 hy => ?_⟩
    obtain ⟨sm, rx⟩ := yl x H3 hy
    obtain ⟨ρ1, eb, ev⟩ := inv_compF ef
    have n3 : Now G S' (wipeE ρ (tsl t)) (L2.wipe σ (tsl t)) H3 si := (nI.wipe (tsl t)).same sm
    refine bindT_ok hK eb n3 (by rw [eT]; exact rx) fun σ2 n4 st sb bs => ⟨(st _ fun _ h => h).trans (wipe_wipe _ _), ?_⟩
    have up : ∀ a, Tw S' ρ σ a → Tw S' ρ1 σ2 a := fun a z => z.imp id fun z => bs (noOwn_wipe e2) a (z.wipe e2)
    -- an item
    have fin : ∀ {s3 : Sh} {H4 : Hp} {d : D} {y : V}, Fr G H3 H4 → Shf G S' (Tw S' ρ1 σ2) H4 s2 → Rep G (wo H4 (Tw S' ρ1 σ2)) d y → l = done ++ (d :: l') → ∃ acc, H4 Dd = some (.lst acc) ∧ acc.length < sizeLine ∧
        ∃ si done rest vs, compL (compF cl ρ elt t c) (xs.drop (i + 1)) si = some (rest, s') ∧ l = done ++ rest ∧ done.length ≤ i + 1 ∧ upd H4 Dd (.lst (acc ++ [y])) Dd = some (.lst vs) ∧ RepL G (wo (upd H4 Dd (.lst (acc ++ [y]))) (Tw S' ρ σ)) done vs ∧ Fr G H1 (upd H4 Dd (.lst (acc ++ [y]))) ∧
          Shf G S' (Tw S' ρ σ) (upd H4 Dd (.lst (acc ++ [y]))) si := fun {s3 H4 d y} f4 h4 r4 el2 => by
      have f24 : Fr G H2 H4 := (Fr.of sm).trans f4
      have hv4 : H4 Dd = some (.lst vs) := fr_keep nI f24 hv fun kvs z => by cases z
      have hlen := hr.len
      have eW : wo (upd H4 Dd (.lst (vs ++ [y]))) (Tw S' ρ σ) = wo H4 (Tw S' ρ σ) := wo_upd (.inl sD)
      refine ⟨vs, hv4, by rw [sizeLine_eq]; omega, s2, done ++ [d], l', vs ++ [y], er, by rw [el2]; simp, by simp; omega, upd_same, ?_, fun a o hx e => ?_, ?_⟩
      · rw [eW]
        exact (RepL.mono (nI.up f24) done hr).append (RepL.cons (Rep.mono (wo_less up) d r4) RepL.nil)
      · rw [upd_ne (ne_of_none e hD)]
        exact (hf.trans f24) a o hx e
      · refine (h4.less (fun _ h => h) up).grow (fun x hx => sS _ (n1.dk x hx).1) ?_ fun x hx => ⟨upd_ne (ne0 x hx).1, upd_ne (ne0 x hx).2⟩
        rw [eW]
        exact Same.refl _
    have skip : ∀ {H4 : Hp}, Fr G H3 H4 → Shf G S' (Tw S' ρ1 σ2) H4 s2 → l = done ++ l' → ∃ si done rest vs, compL (compF cl ρ elt t c) (xs.drop (i + 1)) si = some (rest, s') ∧ l = done ++ rest ∧ done.length ≤ i + 1 ∧ H4 Dd = some (.lst vs) ∧ RepL G (wo H4 (Tw S' ρ σ)) done vs ∧ Fr G H1 H4 ∧ Shf G S' (Tw S' ρ σ) H4 si := fun {H4} f4 h4 el2 => by
      have f24 : Fr G H2 H4 := (Fr.of sm).trans f4
      exact ⟨s2, done, l', vs, er, el2, by omega, fr_keep nI f24 hv (fun kvs z => by cases z), RepL.mono (nI.up f24) done hr, hf.trans f24, h4.less (fun _ h => h) up⟩
    unfold tT
    cases tst with
    | true =>
      rw [if_pos rfl]
      rcases ev with ⟨s3, d, ec1, ee, rfl⟩ | ⟨ec1, rfl⟩
      · refine ⟨S', ρ1, si, true, s3, n4, ec1, fun H4 f4 h4 => ?_⟩
        show wd G cl elt σ2 H4 _
        exact ⟨S', ρ1, s3, d, s2, n4.fr f4 h4, ee, fun y H5 f5 h5 r5 => fin (s3 := s3) (f4.trans f5) h5 r5 el⟩
      · refine ⟨S', ρ1, si, false, s2, n4, ec1, fun H4 f4 h4 => ?_⟩
        exact skip f4 h4 el
    | false =>
      rw [if_neg (by decide)]
      have ec0 := ht rfl
      subst ec0
      rcases ev with ⟨s3, d, ec1, ee, rfl⟩ | ⟨ec1, rfl⟩
      · cases ec1
        show wd G cl elt σ2 H3 _
        exact ⟨S', ρ1, si, d, s2, n4, ee, fun y H5 f5 h5 r5 => fin (s3 := si) f5 h5 r5 el⟩
      · cases ec1
  · have e5 : i = xs.length := by omega
    subst e5
    rw [List.drop_length] at ec
    cases ec
    rw [List.append_nil] at el
    subst el
    refine .inl ⟨wk2, q _ _ (f1.trans hf) (hsh.grow (fun x hx => (n1.dk x hx).1) (wo_less fun a z => z.imp (sS a) id) fun x hx => ⟨rfl, rfl⟩) ?_⟩
    unfold Rep
    exact ⟨Dd, vs, rfl, wo_some.mpr ⟨nD, hv⟩, RepL.mono (wo_less fun a z => z.imp (sS a) id) _ hr⟩
end
section
variable {G : Gx} {cl : Cl} {k : Nat} {sc : Scope} {N : List PySem.Str} {X : Cx}
theorem Gd.blk (g : Gd G cl k sc N X) (s : Shared) (H : Hp) (scope : Scope) (C : Addr) (cls : List (PySem.Str × Addr)) (fp : List Addr) : Gd G cl k (relS scope sc) N (X.blk s H scope (compEnvC scope cls C X.env) fp) := by
  refine ⟨⟨g.C.K, g.C.P, g.C.w, g.C.mg, g.C.calm, g.C.hu⟩, g.W, g.nm, g.nd, ?_, rfl, g.room, g.hold, g.holdD⟩
  rw [← g.scp]
  rfl
/-- the names that a comprehension's own targets may have -/
def okC (scope : Scope) (x : PySem.Str) : Bool := match scope.names.lookup x with
  | some .local => true
  | some .cell => true
  | _ => false
theorem okC_ok (g : Gd G cl k sc N X) (s : Shared) (H : Hp) (scope : Scope) (C : Addr) (cls : List (PySem.Str × Addr)) (fp : List Addr) : OkN (X.blk s H scope (compEnvC scope cls C X.env) fp) (okC scope) := fun x hx => by
  have e : (compEnvC scope cls C X.env).scope.names.lookup x = (relS scope X.env.scope).names.lookup x := rfl
  unfold okC at hx
  unfold L2.Loc
  split at hx
  · rename_i h
    have h2 : (relS scope X.env.scope).names.lookup x = some .local := lookup_relS_keep (by decide) h
    exact ⟨.inl (e.trans h2), .inr (e.trans h2)⟩
  · rename_i h
    have h2 : (relS scope X.env.scope).names.lookup x = some .cell := lookup_relS_keep (by decide) h
    refine ⟨.inr (e.trans h2), .inl ?_⟩
    show (scope.names.lookup x == some .cell) = true
    rw [h]
    rfl
  · cases hx
theorem s_comp (g : Gd G cl k sc N X) {tst : Bool} {elt c : ME} {t : MT} {it : MI} {E TG IT : Expr} {ifs : List Expr} {scope : Scope} {own : List (PySem.Str × Nat)} {pos : Pos} (ht : tst = false → c = .bl true) (hi : PI X TG IT (wdI G cl it)) (ok : BlkOk N sc scope own) (ho : own.map (·.2) = tsl t)
    (hg : chkT N (okC scope) t TG = true) (hc : ∀ X', Gd G cl k (relS scope sc) N X' → PTs X' ifs (tT G cl tst c)) (he : ∀ X', Gd G cl k (relS scope sc) N X' → PE X' E (wd G cl elt)) (hs : ∀ x, foldedSetIterable IT X.env x = pure x) :
    PE X (.ListComp E [⟨TG, IT, ifs, 0⟩] scope pos) (wd G cl (.comp tst elt t it c)) := by
  have hnd : X.N.Nodup := by rw [g.nm]; exact g.nd
  refine PE.imp (pe_lc (own := own) (g := gT X.K t) g.C.calm hnd hi (by rw [g.nm, g.scp]; exact ok) (fun s H C cls fp => chkT_pg (X := X.blk s H scope (compEnvC scope cls C X.env) fp) g.C.calm g.nm g.nd (okC_ok g s H scope C cls fp) hg) (fun s H C cls fp => hc _ (g.blk s H scope C cls fp)) (fun s H C cls fp => he _ (g.blk s H scope C cls fp)) hs) fun σ H Q h => ?_
  rw [ho]
  exact lc_key g.C.K ht h
end
end Pk
end
section
-- PkStm1
set_option linter.all false
set_option maxRecDepth 100000
/-! What each form of the text is read as: statements. -/
namespace Pk
open PySem PySem.Spec PyProof.Rows L2
/-- from a place to a later one -/
structure Pg (G : Gx) (ρ : En) (σ : L2.St) (H : Hp) (ρ' : En) (σ' : L2.St) (H' : Hp) : Prop where
  fr : ∀ a o, (∀ x, G.dk = some x → a ≠ x.2.2) → ¬ Ow ρ σ a → H a = some o → H' a = some o
  ow : ∀ a, Ow ρ' σ' a → Ow ρ σ a ∨ H a = none
section
variable {G : Gx} {cl : Cl} {S S' T T' : Addr → Prop} {ρ ρ1 ρ' : En} {σ σ1 σ' : L2.St} {H H1 H' : Hp} {s s1 s' : Sh}
theorem Pg.refl : Pg G ρ σ H ρ σ H := ⟨fun _ _ _ _ e => e, fun _ h => .inl h⟩
theorem Pg.of (f : Fr G H H') : Pg G ρ σ H ρ σ H' := ⟨fun a o hx _ e => f a o hx e, fun _ h => .inl h⟩
theorem Pg.trans (n : Now G S ρ' σ' H' s') (a : Pg G ρ σ H ρ1 σ1 H1) (b : Pg G ρ1 σ1 H1 ρ' σ' H') : Pg G ρ σ H ρ' σ' H' := by
  refine ⟨fun c o hx hn e => b.fr c o hx (fun h => (a.ow c h).elim hn fun z => ?_) (a.fr c o hx hn e), fun c h => ?_⟩
  · rw [e] at z
    cases z
  · rcases b.ow c h with h1 | h1
    · exact a.ow c h1
    · by_cases h0 : Ow ρ σ c
      · exact .inl h0
      · refine .inr ?_
        cases e : H c with
        | none => rfl
        | some o =>
          have hx : ∀ x, G.dk = some x → c ≠ x.2.2 := fun x hx z => n.env.dis c h (by rw [z]; exact (n.dk x hx).1)
          rw [a.fr c o hx h0 e] at h1
          cases h1
theorem Pg.same (n : Now G S ρ σ H s) (n' : Now G S ρ' σ' H' s') (p : Pg G ρ σ H ρ' σ' H') : Same (wo H (Tw S ρ σ)) (wo H' (Tw S ρ' σ')) := fun a o h => by
  obtain ⟨h1, h2⟩ := wo_some.mp h
  refine wo_some.mpr ⟨fun z => ?_, p.fr a o (fun x e z => h1 (.inl (by rw [z]; exact (n.dk x e).1))) (fun z => h1 (.inr z)) h2⟩
  rcases z with z | z
  · exact h1 (.inl z)
  · rcases p.ow a z with z | z
    · exact h1 (.inr z)
    · rw [h2] at z
      cases z
def Aft (G : Gx) (S : Addr → Prop) (ρ : En) (σ : L2.St) (H : Hp) (E : Ends) : Out → Prop
  | .nx ρ' s' => ∀ σ' H', Now G S ρ' σ' H' s' → Pg G ρ σ H ρ' σ' H' → E.nx σ' H'
  | .rt d s' => ∀ v H', (∀ a o, (∀ x, G.dk = some x → a ≠ x.2.2) → ¬ Ow ρ σ a → H a = some o → H' a = some o) → Shf G S S H' s' → Rep G (wo H' S) d v → E.rt v H'
theorem Aft.on {E : Ends} {o : Out} (h : Aft G S ρ σ H E o) (n1 : Now G S ρ1 σ1 H1 s1) (p : Pg G ρ σ H ρ1 σ1 H1) : Aft G S ρ1 σ1 H1 E o := by
  cases o with
  | nx ρ' s' => exact fun σ' H' n' p' => h σ' H' n' (p.trans n' p')
  | rt d s' =>
    refine fun v H' f sh r => h v H' (fun a o hx hn e => f a o hx (fun z => (p.ow a z).elim hn fun z => ?_) (p.fr a o hx hn e)) sh r
    rw [e] at z
    cases z
end
section
variable (G : Gx) (cl : Cl)
def wdS (m : MS) : TS := fun E σ H => ∃ S ρ s o, Now G S ρ σ H s ∧ exS cl m ρ s = some o ∧ Aft G S ρ σ H E o
def wdSs (m : MSs) : TS := fun E σ H => ∃ S ρ s o, Now G S ρ σ H s ∧ exSs cl m ρ s = some o ∧ Aft G S ρ σ H E o
end
section
variable {G : Gx} {cl : Cl} {k : Nat} {sc : Scope} {N : List PySem.Str} {X : Cx}
theorem Aft.ends {S : Addr → Prop} {ρ : En} {σ : L2.St} {H : Hp} {E E' : Ends} {o : Out} (h : Aft G S ρ σ H E o) (h1 : ∀ σ H, E.nx σ H → E'.nx σ H) (h2 : ∀ v H, E.rt v H → E'.rt v H) : Aft G S ρ σ H E' o := by
  cases o with
  | nx ρ' s' => exact fun σ' H' n' p' => h1 _ _ (h σ' H' n' p')
  | rt d s' => exact fun v H' f sh r => h2 _ _ (h v H' f sh r)
/-! ### blocks -/
theorem b_nil : PSs X [] (wdSs G cl .nil) := by
  refine PSs.imp pss_nil fun E σ H ⟨S, ρ, s, o, n, e, q⟩ => ?_
  simp only [exSs] at e
  cases e
  exact q σ H n Pg.refl
theorem b_cons {a : MS} {r : MSs} {A : Stmt} {R : List Stmt} (ha : PS X A (wdS G cl a)) (hr : PSs X R (wdSs G cl r)) : PSs X (A :: R) (wdSs G cl (.cons a r)) := by
  refine PSs.imp (pss_cons ha hr) fun E σ H ⟨S, ρ, s, o, n, e, q⟩ => ?_
  simp only [exSs] at e
  split at e
  · rename_i ρ1 s1 e1
    exact ⟨S, ρ, s, _, n, e1, fun σ' H' n' p' => ⟨S, ρ1, s1, o, n', e, q.on n' p'⟩⟩
  · rename_i o' hne
    refine ⟨S, ρ, s, o, n, e, ?_⟩
    cases o with
    | nx ρ1 s1 => exact absurd e (hne ρ1 s1)
    | rt d s1 => exact q
/-- what the text has and the small language has not -/
theorem b_skip {r : MSs} {A : Stmt} {R : List Stmt} (ha : PS X A tNext) (hr : PSs X R (wdSs G cl r)) : PSs X (A :: R) (wdSs G cl r) := PSs.imp (pss_cons ha hr) fun E σ H h => h
/-- what the small language has and the text has not: a list, a dict that is read from now on -/
theorem frz_now {S : Addr → Prop} {ρ : En} {σ : L2.St} {H : Hp} {s : Sh} {i : Nat} {d : D} (n : Now G S ρ σ H s) (e : ρ[i]? = some (.o d)) : Now G S (ρ.set i (.p d)) σ H s := by
  obtain ⟨a, ha, hr⟩ := n.env.own i d e
  have hi : i < ρ.length := (List.getElem?_eq_some_iff.mp e).1
  have sub : ∀ b, Ow (ρ.set i (.p d)) σ b → Ow ρ σ b := fun b ⟨j, d', h1, h2⟩ => by
    rcases getSet h1 with ⟨_, _, z⟩ | ⟨_, h1⟩
    · cases z
    · exact ⟨j, d', h1, h2⟩
  have le : ∀ b, Tw S (ρ.set i (.p d)) σ b → Tw S ρ σ b := fun b z => z.imp id (sub b)
  have na : ¬ Tw S (ρ.set i (.p d)) σ a := fun z => by
    rcases z with z | ⟨j, d', h1, h2⟩
    · exact n.env.dis a ⟨i, d, e, ha⟩ z
    · rcases getSet h1 with ⟨_, _, z⟩ | ⟨hj, h1⟩
      · cases z
      · exact hj (n.env.inj j i d' d a h1 e h2 ha)
  have w := wo_less (H := H) le
  refine ⟨⟨by rw [List.length_set]; exact n.env.len, fun j d' h1 => ?_, fun j d' h1 => ?_, fun j j' d1 d2 b h1 h2 h3 h4 => ?_, fun b hb => n.env.dis b (sub b hb), n.env.dom⟩, n.sh.less (fun _ h => h) le⟩
  · rcases getSet h1 with ⟨rfl, _, z⟩ | ⟨_, h1⟩
    · cases z
      refine ⟨_, ha, ?_⟩
      cases d with
      | lst l =>
        obtain ⟨vs, e1, e2⟩ := hr
        unfold Rep
        exact ⟨a, vs, rfl, wo_some.mpr ⟨na, e1⟩, RepL.mono w l e2⟩
      | dic l => exact ⟨a, rfl, wo_some.mpr ⟨na, hr⟩⟩
      | lev ks =>
        obtain ⟨xs, e1, e2, e3⟩ := hr
        exact ⟨a, xs, rfl, wo_some.mpr ⟨na, e1⟩, e2, fun p hp => (e3 p hp).mono w⟩
      | _ => exact hr.elim
    · obtain ⟨v, h2, h3⟩ := n.env.pur j d' h1
      exact ⟨v, h2, Rep.mono w d' h3⟩
  · rcases getSet h1 with ⟨_, _, z⟩ | ⟨_, h1⟩
    · cases z
    · obtain ⟨b, h2, h3⟩ := n.env.own j d' h1
      exact ⟨b, h2, h3.up rfl w⟩
  · rcases getSet h1 with ⟨_, _, z⟩ | ⟨_, h1⟩
    · cases z
    rcases getSet h2 with ⟨_, _, z⟩ | ⟨_, h2⟩
    · cases z
    exact n.env.inj j j' d1 d2 b h1 h2 h3 h4
theorem frz_pg {ρ : En} {σ : L2.St} {H : Hp} {i : Nat} {d : D} : Pg G ρ σ H (ρ.set i (.p d)) σ H := ⟨fun _ _ _ _ e => e, fun b ⟨j, d', h1, h2⟩ => by
  rcases getSet h1 with ⟨_, _, z⟩ | ⟨_, h1⟩
  · cases z
  · exact .inl ⟨j, d', h1, h2⟩⟩
theorem b_frz {i : Nat} {r : MSs} {R : List Stmt} (hr : PSs X R (wdSs G cl r)) : PSs X R (wdSs G cl (.cons (.frz i) r)) := by
  refine PSs.imp hr fun E σ H ⟨S, ρ, s, o, n, e, q⟩ => ?_
  simp only [exSs, exS] at e
  split at e
  · rename_i ρ1 s1 e1
    split at e1
    · rename_i d ed
      cases e1
      have n1 := frz_now n ed
      exact ⟨S, _, s, o, n1, e, q.on n1 frz_pg⟩
    · cases e1
  · rename_i o' hne
    split at e
    · rename_i d ed
      exact absurd (by rw [ed]) (hne (ρ.set i (.p d)) s)
    · cases e
theorem b_never {r : MSs} {R : List Stmt} : PSs X R (wdSs G cl (.cons .never r)) := by
  refine PSs.imp pss_never fun E σ H ⟨S, ρ, s, o, n, e, q⟩ => ?_
  simp only [exSs, exS] at e
  cases e
/-! ### small statements -/
theorem t_ex (g : Gd G cl k sc N X) {a : ME} {A : Expr} {pos : Pos} (ha : PE X A (wd G cl a)) (hs : swapsWith A none pos.line X.env = pure false) : PS X (.Expr A pos) (wdS G cl (.ex a)) := by
  refine PS.imp (ps_expr ha hs) fun E σ H ⟨S, ρ, s, o, n, e, q⟩ => ?_
  simp only [exS] at e
  split at e
  · rename_i d s1 e1
    cases e
    exact ⟨S, ρ, s, d, s1, n, e1, fun v H1 f1 h1 r1 => q σ H1 (n.fr f1 h1) (Pg.of f1)⟩
  · cases e
theorem set_pg {ρ : En} {σ : L2.St} {H H1 : Hp} {i : Nat} {z : Sl} {v : Option V} (hz : ∀ d, z ≠ .o d) (f : Fr G H H1) : Pg G ρ σ H (ρ.set i z) (σ.set i v) H1 := ⟨fun a o hx _ e => f a o hx e, fun a h => .inl (h.sub hz)⟩
/-- a name of the def's own -/
def okB (sc : Scope) (x : PySem.Str) : Bool := match sc.names.lookup x with
  | some .local => true
  | some .cell => true
  | _ => false
theorem okB_ok (g : Gd G cl k sc N X) (hf : ∀ x, X.fn x = true) : OkN X (okB sc) := fun x hx => by
  unfold okB at hx
  unfold L2.Loc
  rw [g.scp]
  split at hx
  · rename_i h
    exact ⟨.inl h, .inl (hf x)⟩
  · rename_i h
    exact ⟨.inr h, .inl (hf x)⟩
  · cases hx
theorem t_set (g : Gd G cl k sc N X) (hf : ∀ x, X.fn x = true) {i : Nat} {a : ME} {A : Expr} {x : PySem.Str} {pos pos' : Pos} (hx : N[i]? = some x) (ho : okB sc x = true) (ha : PE X A (wd G cl a)) (hs : swapsWith A (some (.Name x pos')) pos.line X.env = pure false) :
    PS X (.Assign [.Name x pos'] A pos) (wdS G cl (.set i a)) := by
  obtain ⟨h1, h2⟩ := okB_ok g hf x ho
  refine PS.imp (ps_set (by rw [g.nm]; exact g.nd) (by rw [g.nm]; exact hx) h1 ha hs h2) fun E σ H ⟨S, ρ, s, o, n, e, q⟩ => ?_
  simp only [exS] at e
  split at e
  · rename_i d s1 e1
    split at e
    · cases e
      exact ⟨S, ρ, s, d, s1, n, e1, fun v H1 f1 h1 r1 => q _ H1 ((n.fr f1 h1).setP r1) (set_pg (fun d' z => by cases z) f1)⟩
    · cases e
  · cases e
theorem t_setLc (g : Gd G cl k sc N X) (hf : ∀ x, X.fn x = true) {i : Nat} {tst : Bool} {elt c : ME} {t : MT} {it : MI} {E' TG IT : Expr} {ifs : List Expr} {scope : Scope} {own : List (PySem.Str × Nat)} {x : PySem.Str} {cpos pos pos' : Pos} (hx : N[i]? = some x) (hl : sc.names.lookup x = some .local)
    (hln : (pos'.line == cpos.line) = true) (hany : (scope.names.any fun (n, k) => n == x && (k == .local || k == .cell)) = false) (ht : tst = false → c = .bl true) (hi : PI X TG IT (wdI G cl it)) (ok : BlkOk N sc scope own) (ho : own.map (·.2) = tsl t)
    (hg : chkT N (okC scope) t TG = true) (hc : ∀ X', Gd G cl k (relS scope sc) N X' → PTs X' ifs (tT G cl tst c)) (he : ∀ X', Gd G cl k (relS scope sc) N X' → PE X' E' (wd G cl elt)) (hs : ∀ x, foldedSetIterable IT X.env x = pure x) (hk : sc.kind = .function) :
    PS X (.Assign [.Name x pos'] (.ListComp E' [⟨TG, IT, ifs, 0⟩] scope cpos) pos) (wdS G cl (.setLc i (.comp tst elt t it c))) := by
  have hnd : X.N.Nodup := by rw [g.nm]; exact g.nd
  have hl' : X.env.scope.names.lookup x = some .local := by rw [g.scp]; exact hl
  refine PS.imp (ps_setLc (own := own) (g := gT X.K t) g.C.calm hnd (by rw [g.nm]; exact hx) hl' (sw_true (by rw [g.scp]; exact hk) hl' hln hany) hi (by rw [g.nm, g.scp]; exact ok) (fun s H C cls fp => chkT_pg (X := X.blk s H scope (compEnvC scope cls C X.env) fp) g.C.calm g.nm g.nd (okC_ok g s H scope C cls fp) hg)
    (fun s H C cls fp => hc _ (g.blk s H scope C cls fp)) (fun s H C cls fp => he _ (g.blk s H scope C cls fp)) hs) fun E σ H ⟨S, ρ, s, o, n, e, q⟩ => ?_
  unfold exS at e
  split at e
  · rename_i d s1 e1
    split at e
    · cases e
      rw [ho]
      exact lc_key g.C.K ht ⟨S, ρ, s, d, s1, n, e1, fun v H1 f1 h1 r1 => q _ H1 ((n.fr f1 h1).setP r1) (set_pg (fun d' z => by cases z) f1)⟩
    · cases e
  · cases e
theorem t_setT (g : Gd G cl k sc N X) (hf : ∀ x, X.fn x = true) {l : List Nat} {a : ME} {A TG : Expr} {pos : Pos} (hg : chkT N (okB sc) (.many l) TG = true) (ha : PE X A (wd G cl a)) (hs : swapsWithSole [TG] A pos.line X.env = pure false) (hw : swappedStores [TG] A X.env = pure none)
    (h1 : (assignEach [TG] X.env).map (·.2) = [assign TG X.env]) : PS X (.Assign [TG] A pos) (wdS G cl (.setT l a)) := by
  refine PS.imp (ps_asg ha (chkT_pg g.C.calm g.nm g.nd (okB_ok g hf) hg) hs hw h1) fun E σ H ⟨S, ρ, s, o, n, e, q⟩ => ?_
  simp only [exS] at e
  split at e
  · rename_i ds s1 e1
    split at e
    · rename_i ρ1 eb
      cases e
      refine ⟨S, ρ, s, _, s1, n, e1, fun v H1 f1 h1 r1 => ?_⟩
      have n1 := n.fr f1 h1
      refine bindT_ok (t := .many l) g.C.K (show bindT (.many l) (.tup ds) ρ = some ρ1 from eb) n1 r1 fun σ2 n2 st sb bs => q σ2 H1 n2 ⟨fun a o hx _ e => f1 a o hx e, fun a h => .inl (sb a h)⟩
    · cases e
  · cases e
theorem t_ret (g : Gd G cl k sc N X) {a : ME} {A : Expr} {pos : Pos} (ha : PE X A (wd G cl a)) (hv : ∀ i, a ≠ .var i) : PS X (.Return (some A) pos) (wdS G cl (.ret a)) := by
  refine PS.imp (ps_ret ha) fun E σ H ⟨S, ρ, s, o, n, e, q⟩ => ?_
  have e0 : retR ρ s (evE cl a ρ s) a = evE cl a ρ s := by
    cases a <;> first | rfl | exact absurd rfl (hv _)
  simp only [exS] at e
  rw [e0] at e
  split at e
  · rename_i d s1 e1
    cases e
    have le : ∀ b, S b → Tw S ρ σ b := fun b z => .inl z
    exact ⟨S, ρ, s, d, s1, n, e1, fun v H1 f1 h1 r1 => q v H1 (fun a o hx _ e => f1 a o hx e) (h1.less (fun _ h => h) le) (Rep.mono (wo_less le) d r1)⟩
  · cases e
theorem t_retV (g : Gd G cl k sc N X) {i : Nat} {x : PySem.Str} {p pos : Pos} (h : vr sc N i x = true) : PS X (.Return (some (.Name x p)) pos) (wdS G cl (.ret (.var i))) := by
  refine PS.imp (ps_ret (vr_pe g h)) fun E σ H ⟨S, ρ, s, o, n, e, q⟩ => ?_
  have le : ∀ b, S b → Tw S ρ σ b := fun b z => .inl z
  simp only [exS, retR] at e
  split at e
  · rename_i d s1 e1
    cases e
    split at e1
    · rename_i d' ed
      cases e1
      obtain ⟨a, ha, hr⟩ := n.env.own i d ed
      refine ⟨.ref a, ha, q _ H (fun a o hx _ e => e) (n.sh.less (fun _ h => h) le) ?_⟩
      have na : ¬ S a := n.env.dis a ⟨i, d, ed, ha⟩
      have w := wo_less (H := H) le
      cases d with
      | lst l =>
        obtain ⟨vs, e1, e2⟩ := hr
        unfold Rep
        exact ⟨a, vs, rfl, wo_some.mpr ⟨na, e1⟩, RepL.mono w l e2⟩
      | dic l => exact ⟨a, rfl, wo_some.mpr ⟨na, hr⟩⟩
      | lev ks =>
        obtain ⟨xs, e1, e2, e3⟩ := hr
        exact ⟨a, xs, rfl, wo_some.mpr ⟨na, e1⟩, e2, fun p hp => (e3 p hp).mono w⟩
      | _ => exact hr.elim
    · simp only [evE] at e1
      split at e1
      · rename_i d' ed
        cases e1
        obtain ⟨v, h1, h2⟩ := n.env.pur i d ed
        exact ⟨v, h1, q v H (fun a o hx _ e => e) (n.sh.less (fun _ h => h) le) (Rep.mono (wo_less le) d h2)⟩
      · cases e1
  · cases e
theorem t_if {c : ME} {t f : MSs} {C : Expr} {A B : List Stmt} {pos : Pos} (hc : PT X C (wdT G cl c)) (ha : PSs X A (wdSs G cl t)) (hb : PSs X B (wdSs G cl f)) : PS X (.If C A B pos) (wdS G cl (.iff c t f)) := by
  refine PS.imp (ps_if hc ha hb) fun E σ H ⟨S, ρ, s, o, n, e, q⟩ => ?_
  simp only [exS] at e
  split at e
  · rename_i s1 e1
    refine ⟨S, ρ, s, true, s1, n, e1, fun H1 f1 h1 => ?_⟩
    have n1 := n.fr f1 h1
    show wdSs G cl t E σ H1
    exact ⟨S, ρ, s1, o, n1, e, q.on n1 (Pg.of f1)⟩
  · rename_i s1 e1
    refine ⟨S, ρ, s, false, s1, n, e1, fun H1 f1 h1 => ?_⟩
    have n1 := n.fr f1 h1
    show wdSs G cl f E σ H1
    exact ⟨S, ρ, s1, o, n1, e, q.on n1 (Pg.of f1)⟩
  · cases e
end
end Pk
end
section
-- PkStm2
set_option linter.all false
set_option maxRecDepth 100000
/-! Statements on a def's own lists and dicts. -/
namespace Pk
open PySem PySem.Spec PyProof.Rows L2
def OwnO (G : Gx) (Hw : Hp) (a : Addr) : D → HO → Prop
  | .lst l, o => ∃ vs, o = .lst vs ∧ RepL G Hw l vs
  | .dic l, o => o = .dK (dicV l)
  | .lev ks, o => ∃ xs, o = levO G.P G.w a xs ∧ ks = xs.map (·.1) ∧ ∀ p ∈ xs, PrsAt G Hw p.2 p.1
  | _, _ => False
theorem OwnO.rep {G : Gx} {H Hw : Hp} {a : Addr} {d : D} {o : HO} (h : OwnO G Hw a d o) (e : H a = some o) : OwnRep G H Hw a d := by
  cases d with
  | lst l => obtain ⟨vs, rfl, h⟩ := h; exact ⟨vs, e, h⟩
  | dic l =>
    have e2 : o = .dK (dicV l) := h
    rw [e2] at e
    exact e
  | lev ks => obtain ⟨xs, rfl, h⟩ := h; exact ⟨xs, e, h⟩
  | _ => exact h.elim
theorem OwnO.mono {G : Gx} {Hw Hw' : Hp} {a : Addr} {d : D} {o : HO} (h : OwnO G Hw a d o) (w : Same Hw Hw') : OwnO G Hw' a d o := by
  cases d with
  | lst l => obtain ⟨vs, e, h⟩ := h; exact ⟨vs, e, RepL.mono w l h⟩
  | dic l => exact h
  | lev ks => obtain ⟨xs, e, h1, h2⟩ := h; exact ⟨xs, e, h1, fun p hp => (h2 p hp).mono w⟩
  | _ => exact h.elim
section
variable {G : Gx} {S : Addr → Prop} {ρ : En} {σ : L2.St} {H H' : Hp} {s s' : Sh}
/-- an own object's content changes (at any slot), or a new one is bound -/
theorem own_set (n : Now G S ρ σ H s) {i : Nat} {d : D} {a : Addr} {o : HO} (hi : i < ρ.length) (hs : ¬ S a) (hj : ∀ (j : Nat) (d' : D), j ≠ i → ρ[j]? = some (.o d') → σ[j]? ≠ some (some (.ref a))) (hr : ∀ b, b ∉ [a] → H' b = H b) (h' : H' a = some o)
    (hn : H a = none ∨ Ow ρ σ a) (c : OwnO G (wo H (Tw S ρ σ)) a d o) : Now G S (ρ.set i (.o d)) (σ.set i (some (.ref a))) H' s := by
  have sub : ∀ b, Ow (ρ.set i (.o d)) (σ.set i (some (.ref a))) b → b = a ∨ Ow ρ σ b := fun b ⟨j, d', h1, h2⟩ => by
    rcases getSet h1 with ⟨rfl, _, z⟩ | ⟨hj, h1⟩
    · rcases getSet h2 with ⟨_, _, z⟩ | ⟨hj, _⟩
      · cases z
        exact .inl rfl
      · exact absurd rfl hj
    · rcases getSet h2 with ⟨e, _⟩ | ⟨_, h2⟩
      · exact absurd e hj
      · exact .inr ⟨j, d', h1, h2⟩
  have w : Same (wo H (Tw S ρ σ)) (wo H' (Tw S (ρ.set i (.o d)) (σ.set i (some (.ref a))))) := fun b u h => by
    obtain ⟨h1, h2⟩ := wo_some.mp h
    have hb : b ≠ a := fun z => by
      rcases hn with hn | hn
      · rw [z, hn] at h2
        cases h2
      · exact h1 (.inr (by rw [z]; exact hn))
    refine wo_some.mpr ⟨fun z => ?_, by rw [hr b (by simpa using hb)]; exact h2⟩
    rcases z with z | z
    · exact h1 (.inl z)
    · rcases sub b z with z | z
      · exact hb z
      · exact h1 (.inr z)
  have hd : ∀ x, G.dk = some x → x.1 ≠ a ∧ x.2.2 ≠ a := fun x hx => by
    obtain ⟨h1, h2, h3, _⟩ := n.dk x hx
    refine ⟨fun z => ?_, fun z => hs (by rw [← z]; exact h1)⟩
    rcases hn with hn | ⟨j, d', h4, h5⟩
    · exact h2 (by rw [z]; exact hn)
    · obtain ⟨b, h6, h7⟩ := n.env.own j d' h4
      rw [h5] at h6
      cases h6
      have hs2 := (shelf_at (a0 := x.1) (dx := x.2.1) (d0 := x.2.2) n.sh hx).2.1
      rw [z] at hs2
      cases d' with
      | lst l => obtain ⟨vs, h8, _⟩ := h7; rw [hs2] at h8; cases h8
      | dic l =>
        have h8 : H a = some (HO.dK (dicV l)) := h7
        rw [hs2] at h8
        cases h8
      | lev ks => obtain ⟨xs, h8, _⟩ := h7; rw [hs2] at h8; cases h8
      | _ => exact h7.elim
  refine ⟨⟨by rw [List.length_set, List.length_set]; exact n.env.len, fun j d' h1 => ?_, fun j d' h1 => ?_, fun j j' d1 d2 b h1 h2 h3 h4 => ?_, fun b hb => ?_, fun b hb => ?_⟩, n.sh.grow (fun x hx => (n.dk x hx).1) w fun x hx => ⟨hr _ (by simpa using (hd x hx).1), hr _ (by simpa using (hd x hx).2)⟩⟩
  · rcases getSet h1 with ⟨_, _, z⟩ | ⟨hj', h1⟩
    · cases z
    · obtain ⟨v, h2, h3⟩ := n.env.pur j d' h1
      exact ⟨v, by rw [List.getElem?_set_ne (Ne.symm hj')]; exact h2, Rep.mono w d' h3⟩
  · rcases getSet h1 with ⟨rfl, _, z⟩ | ⟨hj', h1⟩
    · cases z
      exact ⟨a, setGet _ (by rw [n.env.len]; exact hi), (c.mono w).rep h'⟩
    · obtain ⟨b, h2, h3⟩ := n.env.own j d' h1
      have hb : b ≠ a := fun z => hj j d' hj' h1 (by rw [← z]; exact h2)
      exact ⟨b, by rw [List.getElem?_set_ne (Ne.symm hj')]; exact h2, h3.up (hr b (by simpa using hb)) w⟩
  · by_cases e1 : j = i
    · by_cases e2 : j' = i
      · exact e1.trans e2.symm
      · have g2 : ρ[j']? = some (.o d2) := by rw [List.getElem?_set_ne (Ne.symm e2)] at h2; exact h2
        have g4 : σ[j']? = some (some (.ref b)) := by rw [List.getElem?_set_ne (Ne.symm e2)] at h4; exact h4
        rcases getSet h3 with ⟨_, _, z⟩ | ⟨z, _⟩
        · cases z
          exact absurd g4 (hj j' d2 e2 g2)
        · exact absurd e1 z
    · have g1 : ρ[j]? = some (.o d1) := by rw [List.getElem?_set_ne (Ne.symm e1)] at h1; exact h1
      have g3 : σ[j]? = some (some (.ref b)) := by rw [List.getElem?_set_ne (Ne.symm e1)] at h3; exact h3
      by_cases e2 : j' = i
      · rcases getSet h4 with ⟨_, _, z⟩ | ⟨z, _⟩
        · cases z
          exact absurd g3 (hj j d1 e1 g1)
        · exact absurd e2 z
      · have g2 : ρ[j']? = some (.o d2) := by rw [List.getElem?_set_ne (Ne.symm e2)] at h2; exact h2
        have g4 : σ[j']? = some (some (.ref b)) := by rw [List.getElem?_set_ne (Ne.symm e2)] at h4; exact h4
        exact n.env.inj j j' d1 d2 b g1 g2 g3 g4
  · rcases sub b hb with z | z
    · rw [z]; exact hs
    · exact n.env.dis b z
  · have hb' : b ≠ a := fun z => hs (by rw [← z]; exact hb)
    rw [hr b (by simpa using hb')]
    exact n.env.dom b hb
/-- a new object at a slot -/
theorem own_new (n : Now G S ρ σ H s) {i : Nat} {d : D} {a : Addr} {o : HO} (hi : i < ρ.length) (ha : H a = none) (c : OwnO G (wo H (Tw S ρ σ)) a d o) : Now G S (ρ.set i (.o d)) (σ.set i (some (.ref a))) (upd H a o) s :=
  own_set n hi (fun z => n.env.dom a z ha) (fun j d' _ h1 h2 => by
    obtain ⟨b, h3, h4⟩ := n.env.own j d' h1
    rw [h2] at h3
    cases h3
    exact h4.there ha) (fun b hb => upd_ne (by simpa using hb)) upd_same (.inl ha) c
/-- an own object written -/
theorem own_put (n : Now G S ρ σ H s) {i : Nat} {d d' : D} {a : Addr} {o : HO} (hd : ρ[i]? = some (.o d')) (ha : σ[i]? = some (some (.ref a))) (c : OwnO G (wo H (Tw S ρ σ)) a d o) : Now G S (ρ.set i (.o d)) σ (upd H a o) s := by
  have hi := (List.getElem?_eq_some_iff.mp hd).1
  have h := own_set (H' := upd H a o) n hi (n.env.dis a ⟨i, d', hd, ha⟩) (fun j d2 hj h1 h2 => hj (n.env.inj j i d2 d' a h1 hd h2 ha)) (fun b hb => upd_ne (by simpa using hb)) upd_same (.inr ⟨i, d', hd, ha⟩) c
  have e : σ.set i (some (.ref a)) = σ := by
    refine List.ext_getElem? fun j => ?_
    by_cases hj : i = j
    · subst hj
      rw [setGet _ (by rw [n.env.len]; exact hi), ha]
    · rw [List.getElem?_set_ne hj]
  rw [e] at h
  exact h
theorem own_new_pg (n : Now G S ρ σ H s) {i : Nat} {d : D} {a : Addr} {o : HO} (ha : H a = none) : Pg G ρ σ H (ρ.set i (.o d)) (σ.set i (some (.ref a))) (upd H a o) := by
  refine ⟨fun b u _ _ e => by rw [upd_ne (ne_of_none e ha)]; exact e, fun b ⟨j, d', h1, h2⟩ => ?_⟩
  rcases getSet h1 with ⟨rfl, _, z⟩ | ⟨hj, h1⟩
  · rcases getSet h2 with ⟨_, _, z⟩ | ⟨hj, _⟩
    · cases z
      exact .inr ha
    · exact absurd rfl hj
  · rcases getSet h2 with ⟨e, _⟩ | ⟨_, h2⟩
    · exact absurd e hj
    · exact .inl ⟨j, d', h1, h2⟩
theorem own_put_pg {i : Nat} {d d' : D} {a : Addr} {o : HO} (hd : ρ[i]? = some (.o d')) (ha : σ[i]? = some (some (.ref a))) : Pg G ρ σ H (ρ.set i (.o d)) σ (upd H a o) := by
  refine ⟨fun b u _ hn e => ?_, fun b ⟨j, d2, h1, h2⟩ => ?_⟩
  · have hb : b ≠ a := fun z => hn ⟨i, d', hd, by rw [z]; exact ha⟩
    rw [upd_ne hb]
    exact e
  · rcases getSet h1 with ⟨rfl, _, _⟩ | ⟨_, h1⟩
    · exact .inl ⟨j, d', hd, h2⟩
    · exact .inl ⟨j, d2, h1, h2⟩
end
section
variable (G : Gx) (cl : Cl)
/-- a form that lays a new object -/
def wdF (m : ME) : TE := fun σ H Q => ∃ S ρ s d s', Now G S ρ σ H s ∧ evE cl m ρ s = some (d, s') ∧ ∀ a H1 o, Fr G H H1 → Shf G S (Tw S ρ σ) H1 s' → H1 a = none → OwnO G (wo H1 (Tw S ρ σ)) a d o → Q (.ref a) (upd H1 a o)
end
section
variable {G : Gx} {cl : Cl} {k : Nat} {sc : Scope} {N : List PySem.Str} {X : Cx}
theorem f_lst {l : MEs} {L : List Expr} {pos : Pos} (hl : PA X L (wdA G cl l)) : PE X (.List L pos) (wdF G cl (.lst l)) := by
  refine PE.imp (pe_lst hl) fun σ H Q ⟨S, ρ, s, d, s', n, e, q⟩ => ?_
  obtain ⟨ds, e1, h100, rfl⟩ := inv_lst e
  exact ⟨S, ρ, s, ds, s', n, e1, fun vs H1 f1 h1 r1 => ⟨by rw [← r1.len]; exact le100 h100, fun p hp => q p H1 _ f1 h1 hp ⟨vs, rfl, r1⟩⟩⟩
theorem f_dnew {pos : Pos} : PE X (.Dict [] [] pos) (wdF G cl .dnew) := by
  refine PE.imp pe_dnewK fun σ H Q ⟨S, ρ, s, d, s', n, e, q⟩ => ?_
  cases e
  exact fun p hp => q p H _ .refl n.sh hp rfl
theorem s_dnew {pos : Pos} : PE X (.Dict [] [] pos) (wd G cl .dnew) := by
  refine PE.imp pe_dnewK fun σ H Q ⟨S, ρ, s, d, s', n, e, q⟩ => ?_
  cases e
  exact fun p hp => (q.res n.sh) _ _ (same_new hp) ⟨p, rfl, wo_new n.env.domT hp⟩
theorem f_lvnew (C : Ctx G X) {pos : Pos} : PE X (.Dict [] [] pos) (wdF G cl .lvnew) := by
  refine ⟨fun pins s σ H Q I h => ?_⟩
  obtain ⟨S, ρ, s0, d, s', n, e, q⟩ := h
  cases e
  have hn := I.hok.fresh (Nat.le_refl s.heap.objs.size)
  have lv : LevAt G.P G.w s.heap.objs.size [] (s.heap.push { cls := .type "dict", data := .dict #[] }) := by
    refine ⟨beq_eq_false_iff_ne.mpr (Ne.symm (Nat.ne_of_lt I.big)), Nat.zero_le _, List.nodup_nil, _, #[], 0, Heap.get?_push_size _ rfl, ⟨rfl, rfl, rfl⟩, rfl, rfl⟩
  refine wpAny_Dict_empty ⟨.ref s.heap.objs.size, _, I.laid (a := s.heap.objs.size) (o := levO G.P G.w s.heap.objs.size []) (t' := s.toks) (fun _ _ q => Heap.get?_push_of_some _ q) (Nat.le_refl _) ?_, rfl, q _ H _ .refl n.sh hn ⟨[], rfl, rfl, fun p hp => by cases hp⟩⟩
  rw [← C.P, ← C.w] at lv ⊢
  exact levO_ok lv
def rF1 (G : Gx) (b : B1) : List V → Hp → VK → Prop := fun xs H Q => ∃ T d x z, xs = [x] ∧ Dom T H ∧ RepB G H (wo H T) d x ∧ b1D b d = some z ∧ ∀ a o, H a = none → OwnO G (wo H T) a z o → Q (.ref a) (upd H a o)
theorem call_f_list (C : Ctx G X) : CallR X (.type "list") (rF1 G .list1) := by
  intro pins s σ H xs us Q I r h
  obtain ⟨T, d, x, z, rfl, hT, hd, hz, q⟩ := h
  rcases list_cases hz with ⟨l, rfl, rfl⟩ | ⟨l, rfl, rfl⟩
  · obtain ⟨a, vs, rfl, h2, h3⟩ := hd.lst
    exact call_list_of pins s σ H _ us Q I r ⟨a, vs, rfl, .inl (.of h2), fun p hp => q p _ hp ⟨vs, rfl, h3⟩⟩
  · obtain ⟨a, vs, rfl, h2, h3⟩ := hd.tup
    exact call_list_of pins s σ H _ us Q I r ⟨a, vs, rfl, .inr (by rw [C.K]; exact Same.sqt (wo_same H T) h2), fun p hp => q p _ hp ⟨vs, rfl, h3⟩⟩
theorem call_f_dict (C : Ctx G X) : CallR X (.type "dict") (rF1 G .dict1) := by
  intro pins s σ H xs us Q I r h
  obtain ⟨T, d, x, z, rfl, hT, hd, hz, q⟩ := h
  obtain ⟨l, rfl, rfl⟩ := dict_cases hz
  obtain ⟨a, rfl, h2⟩ : ∃ a, x = .ref a ∧ wo H T a = some (.dK (dicV l)) := hd
  rw [Vals.ref1 r]
  exact d_copyOf I (.inl ((wo_same H T) _ _ h2)) fun p s' hp I' => ⟨.ref p, _, I', rfl, q p _ hp rfl⟩
theorem f1_key {b : B1} {a : ME} {σ : L2.St} {H : Hp} {Q : VK} (h : wdF G cl (.b1 b a) σ H Q) : tCB (rF1 G b) (tCons (wdB G cl a) tNil) σ H Q := by
  obtain ⟨S, ρ, s, d, s', n, e, q⟩ := h
  obtain ⟨x, e1, ez⟩ := inv_b1 e
  exact ⟨S, ρ, s, x, s', n, e1, fun v H1 f1 h1 r1 => ⟨_, x, v, d, rfl, (n.fr f1 h1).env.domT, r1, ez, fun a o ha c => q a H1 o f1 h1 ha c⟩⟩
theorem f_list (g : Gd G cl k sc N X) {a : ME} {A : Expr} {p pos : Pos} (h : glC sc "list" = true) (hp : plainA A = true) (ha : PE X A (wdB G cl a)) : PE X (.Call (.Name "list" p) [A] [] pos) (wdF G cl (.b1 .list1 a)) :=
  PE.imp (pe_callTy (call_f_list g.C) (gl_of g h).1 (bl_none g (by decide)) PyProof.Rows.boot_list (one_pa hp ha) (by decide) (gl_of g h).2 (plain_star hp)) fun σ H Q => f1_key
theorem f_dict (g : Gd G cl k sc N X) {a : ME} {A : Expr} {p pos : Pos} (h : glC sc "dict" = true) (hp : plainA A = true) (ha : PE X A (wdB G cl a)) : PE X (.Call (.Name "dict" p) [A] [] pos) (wdF G cl (.b1 .dict1 a)) :=
  PE.imp (pe_callTy (call_f_dict g.C) (gl_of g h).1 (bl_none g (by decide)) PyProof.Rows.boot_dict (one_pa hp ha) (by decide) (gl_of g h).2 (plain_star hp)) fun σ H Q => f1_key
theorem f_add (g : Gd G cl k sc N X) {a b : ME} {A B : Expr} {pos : Pos} (ha : PE X A (wd G cl a)) (hb : PE X B (wd G cl b)) : PE X (.BinOp A .Add B pos) (fun σ H Q => ∃ S ρ s x s', Now G S ρ σ H s ∧ evE cl (.bin .add a b) ρ s = some (.lst x, s') ∧
    ∀ a H1 o, Fr G H H1 → Shf G S (Tw S ρ σ) H1 s' → H1 a = none → OwnO G (wo H1 (Tw S ρ σ)) a (.lst x) o → Q (.ref a) (upd H1 a o)) := by
  refine PE.imp (pe_op op_cat ha hb) fun σ H Q ⟨S, ρ, s, l, s', n, e, q⟩ => ?_
  obtain ⟨x, s1, y, e1, e2, ez⟩ := inv_bin e
  refine ⟨S, ρ, s, x, s1, n, e1, fun v H1 f1 h1 r1 => ⟨S, ρ, s1, y, s', n.fr f1 h1, e2, fun u H2 f2 h2 r2 => ?_⟩⟩
  have n1 := n.fr f1 h1
  rcases binD_add ez with ⟨i, j, _, _, z⟩ | ⟨i, j, _, _, _, z⟩ | ⟨i, j, _, _, _, z⟩ | ⟨i, j, rfl, rfl, hl, z⟩
  · cases z
  · cases z
  · cases z
  cases z
  have r1' := Rep.mono (n1.up f2) _ r1
  unfold Rep at r1' r2
  obtain ⟨a1, vs, rfl, h3, h4⟩ := r1'
  obtain ⟨a2, ws, rfl, h5, h6⟩ := r2
  exact ⟨a1, a2, vs, ws, rfl, rfl, (wo_same _ _) _ _ h3, (wo_same _ _) _ _ h5, by rw [← h4.len, ← h6.len]; exact hl, fun p hp => q p H2 _ (f1.trans f2) h2 hp ⟨_, rfl, h4.append h6⟩⟩
/-! ### a new own object -/
theorem own_stm {i : Nat} {a : ME} {σ : L2.St} {H : Hp} {E : Ends} (h : wdS G cl (.setOwn i a) E σ H) : ∃ S ρ s d s', Now G S ρ σ H s ∧ evE cl a ρ s = some (d, s') ∧ canOwn d = true ∧
    ∀ b H1 o, Fr G H H1 → Shf G S (Tw S ρ σ) H1 s' → H1 b = none → OwnO G (wo H1 (Tw S ρ σ)) b d o → E.nx (σ.set i (some (.ref b))) (upd H1 b o) := by
  obtain ⟨S, ρ, s, o, n, e, q⟩ := h
  simp only [exS] at e
  split at e
  · rename_i d s1 e1
    split at e
    · rename_i hc
      cases e
      refine ⟨S, ρ, s, d, s1, n, e1, hc.2.2, fun b H1 o f1 h1 hb c => ?_⟩
      have n1 := n.fr f1 h1
      exact q _ _ (own_new n1 hc.1 hb c) (Pg.trans (own_new n1 hc.1 hb c) (Pg.of f1) (own_new_pg n1 hb))
    · cases e
  · cases e
theorem t_own (g : Gd G cl k sc N X) (hf : ∀ x, X.fn x = true) {i : Nat} {a : ME} {A : Expr} {x : PySem.Str} {pos pos' : Pos} (hx : N[i]? = some x) (ho : okB sc x = true) (ha : PE X A (wdF G cl a)) (hs : swapsWith A (some (.Name x pos')) pos.line X.env = pure false) :
    PS X (.Assign [.Name x pos'] A pos) (wdS G cl (.setOwn i a)) := by
  obtain ⟨h1, h2⟩ := okB_ok g hf x ho
  refine PS.imp (ps_set (by rw [g.nm]; exact g.nd) (by rw [g.nm]; exact hx) h1 ha hs h2) fun E σ H h => ?_
  obtain ⟨S, ρ, s, d, s', n, e, _, q⟩ := own_stm h
  exact ⟨S, ρ, s, d, s', n, e, q⟩
theorem t_ownAdd (g : Gd G cl k sc N X) (hf : ∀ x, X.fn x = true) {i : Nat} {a b : ME} {A B : Expr} {x : PySem.Str} {pos' opos pos : Pos} (hx : N[i]? = some x) (ho : okB sc x = true) (ha : PE X A (wd G cl a)) (hb : PE X B (wd G cl b)) :
    PS X (.Assign [.Name x pos'] (.BinOp A .Add B opos) pos) (wdS G cl (.setOwn i (.bin .add a b))) := by
  obtain ⟨h1, h2⟩ := okB_ok g hf x ho
  refine PS.imp (ps_set (by rw [g.nm]; exact g.nd) (by rw [g.nm]; exact hx) h1 (f_add (pos := opos) g ha hb) rfl h2) fun E σ H h => ?_
  obtain ⟨S, ρ, s, d, s', n, e, hc, q⟩ := own_stm h
  obtain ⟨x', s1, y, e1, e2, ez⟩ := inv_bin e
  rcases binD_add ez with ⟨i, j, _, _, rfl⟩ | ⟨i, j, _, _, _, rfl⟩ | ⟨i, j, _, _, _, rfl⟩ | ⟨i, j, _, _, hl, rfl⟩
  · cases hc
  · cases hc
  · cases hc
  · exact ⟨S, ρ, s, _, s', n, e, q⟩
end
end Pk
end
section
-- PkStm3
set_option linter.all false
set_option maxRecDepth 100000
/-! Statements that write to a list, a dict, the shelf; loops. -/
namespace Pk
open PySem PySem.Spec PyProof.Rows L2
section
variable {G : Gx} {cl : Cl} {k : Nat} {sc : Scope} {N : List PySem.Str} {X : Cx}
theorem ts_base {x m : PySem.Str} {p : Pos} {env : PySem.Env} : attributeBase (.Name x p) m env (eval (.Name x p) env) = eval (.Name x p) env := rfl
theorem t_app (g : Gd G cl k sc N X) {i : Nat} {a : ME} {A : Expr} {x : PySem.Str} {p apos cpos pos : Pos} (h : vr sc N i x = true) (hp : plainA A = true) (hl : (apos.endLine == cpos.line) = true) (ha : PE X A (wd G cl a)) :
    PS X (.Expr (.Call (.Attribute (.Name x p) "append" apos) [A] [] cpos) pos) (wdS G cl (.app i a)) := by
  have hps : ([A] : List Expr).all plainA = true := by simp [hp]
  refine PS.imp (ps_expr (pe_bm PySem.F.plainAttrs_list PySem.F.slot_list_append PySem.F.type_list_append mt_append (vr_pe g h) (one_pa hp ha) ts_base (form_of hps (show 1 < 20 by decide)) hl (plain_star hp) rfl) rfl) fun E σ H ⟨S, ρ, s, o, n, e, q⟩ => ?_
  simp only [exS] at e
  split at e
  · rename_i d s1 e1
    split at e
    · rename_i l ed
      split at e
      · rename_i hl
        cases e
        obtain ⟨b, hb, vs, h2, h3⟩ := n.env.own i _ ed
        refine ⟨.ref b, hb, .inl ⟨rfl, vs, .of h2⟩, S, ρ, s, d, s1, n, e1, fun v H1 f1 h1 r1 => ?_⟩
        have n1 := n.fr f1 h1
        obtain ⟨b', hb', vs', h2', h3'⟩ := n1.env.own i _ ed
        rw [hb] at hb'
        cases hb'
        have e3 : vs' = vs := by
          have := fr_keep n f1 h2 (fun kvs z => by cases z)
          rw [h2'] at this
          cases this
          rfl
        subst e3
        refine ⟨b, vs', v, rfl, rfl, h2', by rw [← h3'.len]; exact hl, ?_⟩
        have c : OwnO G (wo H1 (Tw S ρ σ)) b (.lst (l ++ [d])) (.lst (vs' ++ [v])) := ⟨_, rfl, h3'.append (RepL.cons r1 RepL.nil)⟩
        have n2 := own_put n1 ed hb c
        exact q σ _ n2 (Pg.trans n2 (Pg.of f1) (own_put_pg ed hb))
      · cases e
    · cases e
  · cases e
theorem t_ext (g : Gd G cl k sc N X) {i : Nat} {a : ME} {A : Expr} {x : PySem.Str} {p apos cpos pos : Pos} (h : vr sc N i x = true) (hp : plainA A = true) (hl : (apos.endLine == cpos.line) = true) (ha : PE X A (wdB G cl a)) :
    PS X (.Expr (.Call (.Attribute (.Name x p) "extend" apos) [A] [] cpos) pos) (wdS G cl (.ext i a)) := by
  have hps : ([A] : List Expr).all plainA = true := by simp [hp]
  refine PS.imp (ps_expr (pe_bm PySem.F.plainAttrs_list PySem.F.slot_list_extend PySem.F.type_list_extend mt_extend (vr_pe g h) (one_pa hp ha) ts_base (form_of hps (show 1 < 20 by decide)) hl (plain_star hp) rfl) rfl) fun E σ H ⟨S, ρ, s, o, n, e, q⟩ => ?_
  simp only [exS] at e
  split at e
  · rename_i m s1 e1
    split at e
    · rename_i l ed
      split at e
      · rename_i hl
        cases e
        obtain ⟨b, hb, vs, h2, h3⟩ := n.env.own i _ ed
        refine ⟨.ref b, hb, .inl ⟨rfl, vs, .of h2⟩, S, ρ, s, .lst m, s1, n, e1, fun v H1 f1 h1 r1 => ?_⟩
        have n1 := n.fr f1 h1
        obtain ⟨b', hb', vs', h2', h3'⟩ := n1.env.own i _ ed
        rw [hb] at hb'
        cases hb'
        obtain ⟨c0, ws, rfl, h4, h5⟩ := RepB.lst r1
        refine ⟨b, c0, vs', ws, rfl, rfl, h2', h4, by rw [← h3'.len, ← h5.len]; exact hl, ?_⟩
        have c : OwnO G (wo H1 (Tw S ρ σ)) b (.lst (l ++ m)) (.lst (vs' ++ ws)) := ⟨_, rfl, h3'.append h5⟩
        have n2 := own_put n1 ed hb c
        exact q σ _ n2 (Pg.trans n2 (Pg.of f1) (own_put_pg ed hb))
      · cases e
    · cases e
  · cases e
theorem asg_sub {o i : Expr} {pos : Pos} {env : PySem.Env} (h : plainI i = true) (v : Value) : assign (.Subscript o i pos) env v = (do
      let ov ← holding [v] (eval o env)
      let iv ← holding [v, ov] (eval i env)
      standAt pos
      holding [v, ov, iv] (setItem ov iv v)
      release [v, ov, iv] []) := by
  cases i <;> first | rfl | cases h
def plainV : Expr → Bool
  | .ListComp _ _ _ _ => false
  | .SetComp _ _ _ _ => false
  | .DictComp _ _ _ _ _ => false
  | .Tuple _ _ _ => false
  | _ => true
theorem sw_plain {e : Expr} {t : Option Expr} {l : Nat} {env : PySem.Env} (h : plainV e = true) : swapsWith e t l env = pure false := by
  cases e <;> first | rfl | cases h
theorem sws_plain {t e : Expr} {l : Nat} {env : PySem.Env} (h : plainV e = true) : swapsWithSole [t] e l env = pure false := sw_plain h
theorem swd_plain {t e : Expr} {env : PySem.Env} (h : plainV e = true) : swappedStores [t] e env = pure none := by
  cases e <;> first | (cases h; done) | (cases t <;> rfl)
def plainC : Expr → Bool
  | .ListComp _ _ _ _ => false
  | .SetComp _ _ _ _ => false
  | .DictComp _ _ _ _ _ => false
  | _ => true
theorem sw_plainC {e : Expr} {t : Option Expr} {l : Nat} {env : PySem.Env} (h : plainC e = true) : swapsWith e t l env = pure false := by
  cases e <;> first | rfl | cases h
theorem sws_plainC {t e : Expr} {l : Nat} {env : PySem.Env} (h : plainC e = true) : swapsWithSole [t] e l env = pure false := sw_plainC h
theorem swd_sub {o i e : Expr} {p : Pos} {env : PySem.Env} : swappedStores [.Subscript o i p] e env = pure none := by
  cases e <;> rfl
theorem sw_cell {elt : Expr} {gs : List Comprehension} {scope : Scope} {pos py : Pos} {y : PySem.Str} {l : Nat} {env : PySem.Env} (hy : env.scope.names.lookup y = some .cell) : swapsWith (.ListComp elt gs scope pos) (some (.Name y py)) l env = pure false := by
  have ky : env.kindOf y = some .cell := hy
  unfold swapsWith
  simp only [ky]
  have e : (some NameKind.cell == some NameKind.local) = false := by decide
  rw [e]
  simp only [Bool.and_false, Bool.false_and]
theorem t_put (g : Gd G cl k sc N X) {i : Nat} {a b : ME} {A B : Expr} {x : PySem.Str} {p tpos pos : Pos} (h : vr sc N i x = true) (hi : plainI B = true) (hv : plainC A = true) (ha : PE X A (wd G cl a)) (hb : PE X B (wd G cl b)) :
    PS X (.Assign [.Subscript (.Name x p) B tpos] A pos) (wdS G cl (.put i b a)) := by
  refine PS.imp (ps_asg ha (pg_sub (vr_pe g h) hb set_list (asg_sub hi)) (sws_plainC hv) swd_sub) fun E σ H ⟨S, ρ, s, o, n, e, q⟩ => ?_
  simp only [exS] at e
  split at e
  · rename_i d s1 e1
    split at e
    · rename_i l ed
      split at e
      · rename_i j s2 e2
        split at e
        · rename_i m em
          cases e
          obtain ⟨c0, hc, vs, h2, h3⟩ := n.env.own i _ ed
          refine ⟨S, ρ, s, d, s1, n, e1, fun v H1 f1 h1 r1 => ⟨.ref c0, hc, S, ρ, s1, _, s2, n.fr f1 h1, e2, fun u H2 f2 h2' r2 => ?_⟩⟩
          have n1 := n.fr f1 h1
          have n2 := n1.fr f2 h2'
          obtain ⟨b', hb', vs', h4, h5⟩ := n2.env.own i _ ed
          rw [hc] at hb'
          cases hb'
          refine ⟨c0, vs', j, m, rfl, repInt r2, h4, by rw [← h5.len]; exact em, ?_⟩
          have c : OwnO G (wo H2 (Tw S ρ σ)) c0 (.lst (l.set m d)) (.lst (vs'.set m v)) := ⟨_, rfl, h5.set m (Rep.mono (n1.up f2) d r1)⟩
          have n3 := own_put n2 ed hc c
          exact q σ _ n3 (Pg.trans n3 (Pg.of (f1.trans f2)) (own_put_pg ed hc))
        · cases e
      · cases e
    · cases e
  · cases e
theorem any_dic {α : Type} (f : α → V) (l : List (List Nat × α)) (x : List Nat) : ((l.map fun p => (sK p.1, f p.2)).any fun kv => decide (kv.1 = sK x)) = l.any fun p => decide (p.1 = x) := by
  rw [List.any_map]
  congr 1
  funext p
  show decide (sK p.1 = sK x) = decide (p.1 = x)
  by_cases e : p.1 = x
  · rw [e]
    simp
  · rw [decide_eq_false e, decide_eq_false fun z => e (sK_inj z)]
theorem lookS_put {l : List (List Nat × Int)} {x : List Nat} {v : Int} : dicV (putS x v l) = putK (dicV l) (sK x) (.int v) := by
  unfold putS putK dicV
  rw [any_dic V.int l x]
  by_cases h : (l.any fun p => decide (p.1 = x)) = true
  · rw [if_pos h, if_pos h, List.map_map, List.map_map]
    refine List.map_congr_left fun p _ => ?_
    show (sK (if p.1 = x then (p.1, v) else p).1, V.int (if p.1 = x then (p.1, v) else p).2) = if sK p.1 = sK x then (sK p.1, V.int v) else (sK p.1, V.int p.2)
    by_cases e : p.1 = x
    · rw [if_pos e, if_pos (by rw [e])]
    · rw [if_neg e, if_neg fun z => e (sK_inj z)]
  · rw [if_neg h, if_neg h, List.map_append]
    rfl
theorem dicV_len (l : List (List Nat × Int)) : (dicV l).length = l.length := by unfold dicV; rw [List.length_map]
theorem t_dput (g : Gd G cl k sc N X) {i : Nat} {a b : ME} {A B : Expr} {x : PySem.Str} {p tpos pos : Pos} (h : vr sc N i x = true) (hi : plainI B = true) (hv : plainC A = true) (ha : PE X A (wd G cl a)) (hb : PE X B (wd G cl b)) :
    PS X (.Assign [.Subscript (.Name x p) B tpos] A pos) (wdS G cl (.dput i b a)) := by
  refine PS.imp (ps_dput (hu1 g.C) (vr_pe g h) hb ha (sw_plainC hv)) fun E σ H ⟨S, ρ, s, o, n, e, q⟩ => ?_
  simp only [exS] at e
  split at e
  · rename_i z s1 e1
    split at e
    · rename_i l ed
      split at e
      · rename_i y s2 e2
        split at e
        · rename_i hl
          cases e
          obtain ⟨c0, hc, h2⟩ := n.env.own i _ ed
          refine ⟨S, ρ, s, _, s1, n, e1, fun v H1 f1 h1 r1 => ⟨.ref c0, hc, S, ρ, s1, _, s2, n.fr f1 h1, e2, fun u H2 f2 h2' r2 => ?_⟩⟩
          have n1 := n.fr f1 h1
          have n2 := n1.fr f2 h2'
          obtain ⟨b', hb', h4⟩ := n2.env.own i _ ed
          rw [hc] at hb'
          cases hb'
          have h4 : H2 c0 = some (.dK (dicV l)) := h4
          rw [repStr r2, repInt r1]
          refine ⟨c0, _, rfl, DPut.k (k := sK y) h4 (by rw [dicV_len]; exact hl), ?_⟩
          rw [← lookS_put]
          have c : OwnO G (wo H2 (Tw S ρ σ)) c0 (.dic (putS y z l)) (.dK (dicV (putS y z l))) := rfl
          have n3 := own_put n2 ed hc c
          exact q σ _ n3 (Pg.trans n3 (Pg.of (f1.trans f2)) (own_put_pg ed hc))
        · cases e
      · cases e
    · cases e
  · cases e
theorem t_lput (g : Gd G cl k sc N X) {i : Nat} {a b : ME} {A B : Expr} {x : PySem.Str} {p tpos pos : Pos} (h : vr sc N i x = true) (hi : plainI B = true) (hv : plainC A = true) (ha : PE X A (wd G cl a)) (hb : PE X B (wd G cl b)) :
    PS X (.Assign [.Subscript (.Name x p) B tpos] A pos) (wdS G cl (.lput i b a)) := by
  refine PS.imp (ps_asg ha (pg_sub (vr_pe g h) hb (set_lev g.C) (asg_sub hi)) (sws_plainC hv) swd_sub) fun E σ H ⟨S, ρ, s, o, n, e, q⟩ => ?_
  simp only [exS] at e
  split at e
  · rename_i s1 e1
    split at e
    · rename_i l ed
      split at e
      · rename_i y s2 e2
        split at e
        · rename_i z ez
          split at e
          · rename_i hl
            cases e
            obtain ⟨c0, hc, _⟩ := n.env.own i _ ed
            refine ⟨S, ρ, s, _, s1, n, e1, fun v H1 f1 h1 r1 => ⟨.ref c0, hc, S, ρ, s1, _, s2, n.fr f1 h1, e2, fun u H2 f2 h2' r2 => ?_⟩⟩
            have n1 := n.fr f1 h1
            have n2 := n1.fr f2 h2'
            obtain ⟨b', hb', xs, h4, h5, h6⟩ := n2.env.own i _ ed
            rw [hc] at hb'
            cases hb'
            obtain ⟨kb, rfl, hk⟩ := r2.pairs ez
            have r1 : v = .bl true := r1
            subst r1
            have w := wo_same H2 (Tw S ρ σ)
            refine ⟨c0, xs, kb, z, rfl, rfl, rfl, h4, fun p hp => (h6 p hp).mono w, hk.mono w, by rw [h5, List.length_map] at hl; exact hl, ?_⟩
            have c : OwnO G (wo H2 (Tw S ρ σ)) c0 (.lev (if z ∈ l then l else l ++ [z])) (levO G.P G.w c0 (putLev xs z kb)) := by
              refine ⟨_, rfl, ?_, fun p hp => ?_⟩
              · rw [putLev_keys, h5]
              · rcases putLev_mem hp with hp | rfl
                · exact h6 p hp
                · exact hk
            have n3 := own_put n2 ed hc c
            exact q σ _ n3 (Pg.trans n3 (Pg.of (f1.trans f2)) (own_put_pg ed hc))
          · cases e
        · cases e
      · cases e
    · cases e
  · cases e
theorem shR_len {Hw : Hp} : ∀ {s : Sh} {kvs : List (Key × V)}, ShR G Hw s kvs → kvs.length = s.length
  | [], kvs, h => by
    have e : kvs = [] := h
    rw [e]
    rfl
  | (y, d) :: r, kvs, h => by
    obtain ⟨v, q, rfl, _, h2⟩ := h
    simp [shR_len h2]
theorem shR_any {Hw : Hp} {x : List Nat} : ∀ {s : Sh} {kvs : List (Key × V)}, ShR G Hw s kvs → (kvs.any fun kv => decide (kv.1 = sK x)) = s.any fun p => decide (p.1 = x)
  | [], kvs, h => by
    have e : kvs = [] := h
    rw [e]
    rfl
  | (y, d) :: r, kvs, h => by
    obtain ⟨v, q, rfl, _, h2⟩ := h
    simp only [List.any_cons, shR_any h2]
    congr 1
    by_cases e : y = x
    · rw [e]
      simp
    · rw [decide_eq_false e, decide_eq_false fun z => e (sK_inj z)]
theorem shR_map {Hw : Hp} {x : List Nat} {d : D} {v : V} (r : Rep G Hw d v) : ∀ {s : Sh} {kvs : List (Key × V)}, ShR G Hw s kvs → ShR G Hw (s.map fun p => if p.1 = x then (p.1, d) else p) (kvs.map fun kv => if kv.1 = sK x then (kv.1, v) else kv)
  | [], kvs, h => by
    have e : kvs = [] := h
    rw [e]
    rfl
  | (y, d') :: r', kvs, h => by
    obtain ⟨v', q, rfl, h1, h2⟩ := h
    have ih := shR_map (x := x) (d := d) (v := v) r h2
    by_cases e : y = x
    · subst e
      have e1 : (if ((y, d') : List Nat × D).1 = y then (((y, d') : List Nat × D).1, d) else (y, d')) = (y, d) := if_pos rfl
      have e2 : (if ((sK y, v') : Key × V).1 = sK y then (((sK y, v') : Key × V).1, v) else (sK y, v')) = (sK y, v) := if_pos rfl
      rw [List.map_cons, List.map_cons, e1, e2]
      exact ⟨v, _, rfl, r, ih⟩
    · have e1 : (if ((y, d') : List Nat × D).1 = x then (((y, d') : List Nat × D).1, d) else (y, d')) = (y, d') := if_neg e
      have e2 : (if ((sK y, v') : Key × V).1 = sK x then (((sK y, v') : Key × V).1, v) else (sK y, v')) = (sK y, v') := if_neg fun z => e (sK_inj z)
      rw [List.map_cons, List.map_cons, e1, e2]
      exact ⟨v', _, rfl, h1, ih⟩
theorem shR_app {Hw : Hp} {x : List Nat} {d : D} {v : V} (r : Rep G Hw d v) : ∀ {s : Sh} {kvs : List (Key × V)}, ShR G Hw s kvs → ShR G Hw (s ++ [(x, d)]) (kvs ++ [(sK x, v)])
  | [], kvs, h => by
    have e : kvs = [] := h
    rw [e]
    exact ⟨v, [], rfl, r, rfl⟩
  | (y, d') :: r', kvs, h => by
    obtain ⟨v', q, rfl, h1, h2⟩ := h
    exact ⟨v', _, rfl, h1, shR_app r h2⟩
theorem shR_put {Hw : Hp} {x : List Nat} {d : D} {v : V} (r : Rep G Hw d v) {s : Sh} {kvs : List (Key × V)} (h : ShR G Hw s kvs) : ShR G Hw (putS x d s) (putK kvs (sK x) v) := by
  unfold putS putK
  rw [shR_any h]
  split
  · exact shR_map r h
  · exact shR_app r h
theorem t_shPut (g : Gd G cl k sc N X) {a b : ME} {A B : Expr} {x : PySem.Str} {p apos tpos pos : Pos} (h : vr sc N 0 x = true) (hv : plainC A = true) (ha : PE X A (wd G cl a)) (hb : PE X B (wd G cl b)) :
    PS X (.Assign [.Subscript (.Attribute (.Name x p) "shelf" apos) B tpos] A pos) (wdS G cl (.shPut b a)) := by
  refine PS.imp (ps_dput (hu1 g.C) (self_shelf (pos := apos) g h (p := p)) hb ha (sw_plainC hv)) fun E σ H ⟨S, ρ, s, o, n, e, q⟩ => ?_
  simp only [exS] at e
  split at e
  · rename_i hd
    have hd := desk_at hd
    obtain ⟨a0, dx, d0, hy, hσ⟩ := desk_rep n hd
    split at e
    · rename_i z s1 e1
      split at e
      · rename_i y s2 e2
        split at e
        · rename_i hl
          cases e
          refine ⟨S, ρ, s, _, s1, n, e1, fun v H1 f1 h1 r1 => ⟨.ref a0, hσ, ?_⟩⟩
          have n1 := n.fr f1 h1
          obtain ⟨g2, g3, kvs0, g4, g5⟩ := shelf_at h1 hy
          refine ⟨a0, G.C, dx, _, .ref d0, rfl, g3, g.W.cls, g.W.sh, rfl, S, ρ, s1, _, s2, n1, e2, fun u H2 f2 h2 r2 => ?_⟩
          have n2 := n1.fr f2 h2
          obtain ⟨j2, j3, kvs, j4, j5⟩ := shelf_at h2 hy
          rw [repStr r2]
          refine ⟨d0, _, rfl, DPut.k (k := sK y) j4 (by rw [shR_len j5, sizeLine_eq]; omega), ?_⟩
          have eW : wo (upd H2 d0 (.dK (putK kvs (sK y) v))) (Tw S ρ σ) = wo H2 (Tw S ρ σ) := wo_upd (.inl j2)
          have ne : a0 ≠ d0 := (n2.dk _ hy).2.2.2
          have sh : Shf G S (Tw S ρ σ) (upd H2 d0 (.dK (putK kvs (sK y) v))) (putS y z s2) := by
            unfold Shf
            rw [hy]
            refine ⟨j2, by rw [upd_ne ne]; exact j3, _, upd_same, ?_⟩
            rw [eW]
            exact shR_put (Rep.mono (n1.up f2) z r1) j5
          have fr : Fr G H2 (upd H2 d0 (.dK (putK kvs (sK y) v))) := fun c o hx e => by
            rw [upd_ne (hx _ hy)]
            exact e
          exact q σ _ (n2.fr fr sh) (Pg.of ((f1.trans f2).trans fr))
        · cases e
      · cases e
    · cases e
  · cases e
end
end Pk
end
section
-- PkLoop
set_option linter.all false
set_option maxRecDepth 100000
/-! Loops. -/
namespace Pk
open PySem PySem.Spec PyProof.Rows L2
section
variable {G : Gx} {cl : Cl} {k : Nat} {sc : Scope} {N : List PySem.Str} {X : Cx}
/-- one turn of a for loop -/
def forF (cl : Cl) (t : MT) (b : MSs) (x : D) (ρ : En) (s : Sh) : Option Out := match bindT t x ρ with
  | some ρ1 => exSs cl b ρ1 s
  | none => none
theorem inv_for {t : MT} {it : MI} {b : MSs} {ρ : En} {s : Sh} {o : Out} (h : exS cl (.for_ t it b) ρ s = some o) : ∃ xs s1, evI cl it ρ s = some (xs, s1) ∧ forL (forF cl t b) xs ρ s1 = some o := by
  simp only [exS] at h
  split at h
  · exact ⟨_, _, ‹_›, h⟩
  · cases h
theorem inv_forL {t : MT} {b : MSs} {x : D} {r : List D} {ρ : En} {s : Sh} {o : Out} (h : forL (forF cl t b) (x :: r) ρ s = some o) : ∃ ρ1 o1, bindT t x ρ = some ρ1 ∧ exSs cl b ρ1 s = some o1 ∧
    ((∃ ρ2 s2, o1 = .nx ρ2 s2 ∧ forL (forF cl t b) r ρ2 s2 = some o) ∨ (∃ d s2, o1 = .rt d s2 ∧ o = .rt d s2)) := by
  simp only [forL] at h
  split at h
  · rename_i ρ2 s2 e
    unfold forF at e
    split at e
    · exact ⟨_, _, ‹_›, e, .inl ⟨_, _, rfl, h⟩⟩
    · cases e
  · rename_i o' hne
    unfold forF at h
    split at h
    · rename_i ρ1 e1
      refine ⟨_, _, e1, h, ?_⟩
      cases o with
      | nx ρ2 s2 => exact absurd (by unfold forF; rw [e1]; exact h) (hne ρ2 s2)
      | rt d s2 => exact .inr ⟨d, s2, rfl, rfl⟩
    · cases h
theorem t_for (g : Gd G cl k sc N X) (hf : ∀ x, X.fn x = true) {t : MT} {it : MI} {b : MSs} {TG IT : Expr} {B : List Stmt} {pos : Pos} (hg : chkT N (okB sc) t TG = true) (hi : PI X TG IT (wdI G cl it)) (hb : PSs X B (wdSs G cl b)) (hs : ∀ x, foldedSetIterable IT X.env x = pure x) :
    PS X (.For TG IT B [] pos) (wdS G cl (.for_ t it b)) := by
  refine PS.imp (ps_for (by rw [g.xe]; exact PassesOwn.never) g.C.calm hi (chkT_pg g.C.calm g.nm g.nd (okB_ok g hf) hg) hb hs) fun E σ H ⟨S, ρ, s, o, n, e, q⟩ => ?_
  obtain ⟨xs, s1, e1, e2⟩ := inv_for e
  refine ⟨S, ρ, s, xs, s1, n, e1, fun J H1 f1 h1 wk => ?_⟩
  have n1 := n.fr f1 h1
  have q1 := q.on n1 (Pg.of f1)
  refine ⟨fun i m σ' H' => m = xs.length - i ∧ i ≤ xs.length ∧ ∃ ρ' si, Now G S ρ' σ' H' si ∧ Pg G ρ σ H1 ρ' σ' H' ∧ forL (forF cl t b) (xs.drop i) ρ' si = some o, ⟨xs.length, rfl, Nat.zero_le _, ρ, s1, n1, Pg.refl, e2⟩, ?_⟩
  rintro i m σ2 H2 ⟨rfl, hi, ρ2, s2, n2, p2, e3⟩
  obtain ⟨wk1, wk2⟩ := wk H2 (Tw S ρ2 σ2) (p2.same n1 n2) n2.env.domT
  by_cases hlt : i < xs.length
  · have ed : xs.drop i = xs[i] :: xs.drop (i + 1) := List.drop_eq_getElem_cons hlt
    rw [ed] at e3
    obtain ⟨ρ3, o1, eb, eo, ec⟩ := inv_forL e3
    obtain ⟨go, yl⟩ := wk1 i xs[i] (by simp [hlt])
    refine .inr ⟨go, fun σ' H' => ∃ ρ' si, Now G S ρ' σ' H' si ∧ Pg G ρ σ H1 ρ' σ' H' ∧ forL (forF cl t b) (xs.drop (i + 1)) ρ' si = some o, fun σ' H' h => ⟨xs.length - (i + 1), by omega, rfl, hlt, h⟩, fun x H3 hy => ?_⟩
    obtain ⟨sm, rx⟩ := yl x H3 hy
    refine bindT_ok g.C.K eb (n2.same sm) rx fun σ3 n3 st sb bs => ?_
    have p3 : Pg G ρ σ H1 ρ3 σ3 H3 := p2.trans n3 ⟨fun a o _ _ e => sm a o e, fun a h => .inl (sb a h)⟩
    refine ⟨S, ρ3, s2, o1, n3, eo, ?_⟩
    rcases ec with ⟨ρ4, s4, rfl, e5⟩ | ⟨d, s4, rfl, rfl⟩
    · exact fun σ' H' n' p' => ⟨ρ4, s4, n', p3.trans n' p', e5⟩
    · exact q1.on n3 p3
  · have e5 : i = xs.length := by omega
    subst e5
    rw [List.drop_length] at e3
    simp only [forL] at e3
    cases e3
    exact .inl ⟨wk2, q1 σ2 H2 n2 p2⟩
theorem inv_while {c : ME} {b : MSs} {m : Nat} {ρ : En} {s : Sh} {o : Out} (h : whileL (fun ρ s => evE cl c ρ s) (fun ρ s => exSs cl b ρ s) m ρ s = some o) : ∃ m', m = m' + 1 ∧
    ((∃ s1, evE cl c ρ s = some (.bl false, s1) ∧ o = .nx ρ s1) ∨ ∃ s1 o1, evE cl c ρ s = some (.bl true, s1) ∧ exSs cl b ρ s1 = some o1 ∧ ((∃ ρ2 s2, o1 = .nx ρ2 s2 ∧ whileL (fun ρ s => evE cl c ρ s) (fun ρ s => exSs cl b ρ s) m' ρ2 s2 = some o) ∨ (∃ d s2, o1 = .rt d s2 ∧ o = .rt d s2))) := by
  cases m with
  | zero => cases h
  | succ m =>
    refine ⟨m, rfl, ?_⟩
    simp only [whileL] at h
    split at h
    · rename_i s1 e1
      split at h
      · rename_i ρ1 s2 e2
        exact .inr ⟨s1, _, e1, e2, .inl ⟨_, _, rfl, h⟩⟩
      · rename_i o' hne
        refine .inr ⟨s1, o, e1, h, ?_⟩
        cases o with
        | nx ρ2 s2 => exact absurd h (hne ρ2 s2)
        | rt d s2 => exact .inr ⟨d, s2, rfl, rfl⟩
    · rename_i s1 e1
      cases h
      exact .inl ⟨s1, e1, rfl⟩
    · cases h
theorem t_while (g : Gd G cl k sc N X) {c : ME} {b : MSs} {C : Expr} {B : List Stmt} {pos : Pos} (hc : PT X C (wdT G cl c)) (hb : PSs X B (wdSs G cl b)) : PS X (.While C B [] pos) (wdS G cl (.while_ c b)) := by
  refine PS.imp (ps_while (by rw [g.xe]; exact PassesOwn.never) hc hb) fun E σ H ⟨S, ρ, s, o, n, e, q⟩ => ?_
  simp only [exS] at e
  refine ⟨fun m σ' H' => ∃ ρ' si, Now G S ρ' σ' H' si ∧ Pg G ρ σ H ρ' σ' H' ∧ whileL (fun ρ s => evE cl c ρ s) (fun ρ s => exSs cl b ρ s) m ρ' si = some o, ⟨1000, ρ, s, n, Pg.refl, e⟩, ?_⟩
  rintro m σ2 H2 ⟨ρ2, s2, n2, p2, e2⟩
  obtain ⟨m', rfl, e3⟩ := inv_while e2
  rcases e3 with ⟨s3, e4, rfl⟩ | ⟨s3, o1, e4, e5, e6⟩
  · refine ⟨S, ρ2, s2, false, s3, n2, e4, fun H3 f3 h3 => ?_⟩
    have n3 := n2.fr f3 h3
    show E.nx σ2 H3
    exact q σ2 H3 n3 (p2.trans n3 (Pg.of f3))
  · refine ⟨S, ρ2, s2, true, s3, n2, e4, fun H3 f3 h3 => ?_⟩
    have n3 := n2.fr f3 h3
    have p3 := p2.trans n3 (Pg.of f3)
    show ∃ N : L2.St → Hp → Prop, _
    refine ⟨fun σ' H' => ∃ ρ' si, Now G S ρ' σ' H' si ∧ Pg G ρ σ H ρ' σ' H' ∧ whileL (fun ρ s => evE cl c ρ s) (fun ρ s => exSs cl b ρ s) m' ρ' si = some o, fun σ' H' h => ⟨m', Nat.lt_succ_self _, h⟩, S, ρ2, s3, o1, n3, e5, ?_⟩
    rcases e6 with ⟨ρ4, s4, rfl, e7⟩ | ⟨d, s4, rfl, rfl⟩
    · exact fun σ' H' n' p' => ⟨ρ4, s4, n', p3.trans n' p', e7⟩
    · exact q.on n3 p3
end
end Pk
end
section
-- PkChk
set_option linter.all false
set_option maxRecDepth 100000
/-! The text against the small language: what is looked at. -/
namespace Pk
open PySem PySem.Spec PyProof.Rows L2
def plainS : Expr → Bool
  | .Set _ _ _ => false
  | _ => true
def isV : ME → Bool
  | .var _ => true
  | _ => false
def yes? : ME → Bool
  | .bl true => true
  | _ => false
section
variable (N : List PySem.Str)
mutual
def chkE : ME → Scope → Expr → Bool
  | .never, _, _ => true
  | .var i, sc, e => match e with
    | .Name x _ => vr sc N i x
    | _ => false
  | .int n, _, e => match e with
    | .Constant (.int i) _ _ => decide (i = n)
    | _ => false
  | .str l, _, e => match e with
    | .Constant (.str x) _ _ => decide (x.cps.toList = l)
    | _ => false
  | .bl b, _, e => match e with
    | .Constant (.bool c) _ _ => decide (c = b)
    | _ => false
  | .non, _, e => match e with
    | .Constant .none _ _ => true
    | _ => false
  | .glo g, sc, e => match e with
    | .Name x _ => glC sc x && decide (x = globStr g)
    | _ => false
  | .fnv f, sc, e => match e with
    | .Name x _ => glC sc x && decide (fnAt f = (x, none))
    | _ => false
  | .bin o a b, sc, e => match e with
    | .BinOp A op B _ => decide (op = bopOf o) && chkE a sc A && chkE b sc B
    | _ => false
  | .neg a, sc, e => match e with
    | .UnaryOp op A _ => decide (op = .USub) && chkE a sc A
    | _ => false
  | .cmp o a b, sc, e => match e with
    | .Compare A [op] [B] _ => decide (op = copOf o) && chkE a sc A && chkE b sc B && !(behindInMarks (copOf o) B)
    | _ => false
  | .and2 a b, sc, e => match e with
    | .BoolOp .And (A :: B :: rest) pos => chkE a sc A && (match rest with | [] => chkE b sc B | _ :: _ => chkE b sc (.BoolOp .And (B :: rest) pos))
    | _ => false
  | .or2 a b, sc, e => match e with
    | .BoolOp .Or (A :: B :: rest) pos => chkE a sc A && (match rest with | [] => chkE b sc B | _ :: _ => chkE b sc (.BoolOp .Or (B :: rest) pos))
    | _ => false
  | .not1 a, sc, e => match e with
    | .UnaryOp .Not A _ => chkE a sc A
    | _ => false
  | .tup l, sc, e => match e with
    | .Tuple L _ _ => chkEs l sc L
    | _ => false
  | .lst l, sc, e => match e with
    | .List L _ => chkEs l sc L
    | _ => false
  | .ix a b, sc, e => match e with
    | .Subscript A B _ => plainI B && chkE a sc A && chkE b sc B
    | _ => false
  | .sl a lo hi, sc, e => match e with
    | .Subscript A (.Slice L U none _) _ => chkE a sc A && chkO lo sc L && chkO hi sc U
    | _ => false
  | .call f l, sc, e => match e with
    | .Call (.Name x _) (A :: L) [] _ => glC sc x && decide (fnAt f = (x, none)) && chkEs l sc (A :: L)
    | _ => false
  | .callv i l, sc, e => match e with
    | .Call (.Name x _) (A :: L) [] _ => vr sc N i x && chkEs l sc (A :: L)
    | _ => false
  | .meth f o l, sc, e => match e with
    | .Call (.Attribute (.Name x p) m apos) (A :: L) [] pos => decide ((fnAt f).2 = some m) && decide (m ≠ "shelf") && decide ((A :: L).length < 20) && (apos.endLine == pos.line) && chkE o sc (.Name x p) && chkEs l sc (A :: L)
    | _ => false
  | .b1 b a, sc, e => match e with
    | .Call (.Name x _) [A] kws _ => glC sc x && decide (x = b1name b) && plainA A && chkE a sc A && (match b with
      | .maxd => match kws with
        | [⟨some d, .Constant (.int z) _ _, _⟩] => decide (d = "default") && decide (z = 0)
        | _ => false
      | _ => match kws with
        | [] => true
        | _ => false)
    | _ => false
  | .b2 o a b, sc, e => match e with
    | .Call (.Name x _) [A, B] [] _ => glC sc x && decide (x = b2name o) && plainA A && plainA B && chkE a sc A && chkE b sc B
    | _ => false
  | .lrng a, sc, e => match e with
    | .Call (.Name x _) [.Call (.Name y _) [A] [] _] [] _ => glC sc x && decide (x = "list") && glC sc y && decide (y = "range") && plainA A && chkE a sc A
    | _ => false
  | .sset a, sc, e => match e with
    | .Call (.Name x _) [.Call (.Name y _) [A] [] _] [] _ => glC sc x && decide (x = "sorted") && glC sc y && decide (y = "set") && plainA A && chkE a sc A
    | _ => false
  | .isi a t, sc, e => match e with
    | .Call (.Name x _) [A, .Name y _] [] _ => glC sc x && decide (x = "isinstance") && glC sc y && decide (y = tyName t) && plainA A && chkE a sc A
    | _ => false
  | .split a b, sc, e => match e with
    | .Call (.Attribute A m apos) [B] [] pos => decide (m = "split") && (apos.endLine == pos.line) && plainO A && plainA B && chkE a sc A && chkE b sc B
    | _ => false
  | .join a b, sc, e => match e with
    | .Call (.Attribute A m apos) [B] [] pos => decide (m = "join") && (apos.endLine == pos.line) && plainO A && plainA B && chkE a sc A && chkE b sc B
    | _ => false
  | .part a b, sc, e => match e with
    | .Call (.Attribute A m apos) [B] [] pos => decide (m = "partition") && (apos.endLine == pos.line) && plainO A && plainA B && chkE a sc A && chkE b sc B
    | _ => false
  | .fget a, sc, e => match e with
    | .Call (.Attribute (.Name x _) m apos) [A] [] pos => glC sc x && decide (x = "FORMS") && decide (m = "get") && (apos.endLine == pos.line) && plainA A && chkE a sc A
    | _ => false
  | .fix a, sc, e => match e with
    | .Subscript (.Name x _) A _ => glC sc x && decide (x = "FORMS") && plainI A && chkE a sc A
    | _ => false
  | .disp k1 v1 k2 v2 a, sc, e => match e with
    | .Subscript (.Dict [some (.Constant (.str x1) _ _), some (.Constant (.str x2) _ _)] [.Constant (.str y1) _ _, .Constant (.str y2) _ _] _) A _ =>
      decide (x1.cps.toList = k1) && decide (y1.cps.toList = v1) && decide (x2.cps.toList = k2) && decide (y2.cps.toList = v2) && decide (k1 ≠ k2) && plainI A && chkE a sc A
    | _ => false
  | .fstr p a q b, sc, e => match e with
    | .JoinedStr [.Constant (.str x) _ _, .FormattedValue A c1 none _, .Constant (.str y) _ _, .FormattedValue B c2 none _] _ =>
      decide (c1 = -1) && decide (c2 = -1) && decide (x.cps.toList = p) && decide (y.cps.toList = q) && decide (p.length ≤ 100) && decide (q.length ≤ 100) && chkE a sc A && chkE b sc B
    | _ => false
  | .comp tst elt t it c, sc, e => match e with
    | .ListComp E [⟨TG, IT, ifs, z⟩] scope _ => decide (z = 0) && chkI it sc TG IT && plainS IT && blkC N sc scope ((tsl t).map fun i => (N.getD i "", i)) && chkT N (okC scope) t TG &&
      (if tst = true then (match ifs with | [C] => chkE c (relS scope sc) C | _ => false) else (match ifs with | [] => yes? c | _ => false)) && chkE elt (relS scope sc) E
    | _ => false
  | .dnew, _, e => match e with
    | .Dict [] [] _ => true
    | _ => false
  | .lvnew, _, _ => false
  | .shNot a, sc, e => match e with
    | .Compare A [op] [.Attribute (.Name x _) m _] _ => decide (op = .NotIn) && decide (m = "shelf") && vr sc N 0 x && chkE a sc A
    | _ => false
  | .shGet a, sc, e => match e with
    | .Subscript (.Attribute (.Name x _) m _) A _ => decide (m = "shelf") && vr sc N 0 x && plainI A && chkE a sc A
    | _ => false
def chkEs : MEs → Scope → List Expr → Bool
  | .nil, _, es => match es with
    | [] => true
    | _ => false
  | .cons a l, sc, es => match es with
    | e :: r => plainA e && chkE a sc e && chkEs l sc r
    | [] => false
def chkO : MO → Scope → Option Expr → Bool
  | .no, _, e => match e with
    | none => true
    | _ => false
  | .ok a, sc, e => match e with
    | some A => chkE a sc A
    | none => false
def chkI : MI → Scope → Expr → Expr → Bool
  | .val a, sc, _, e => chkE a sc e
  | .r1 a, sc, _, e => match e with
    | .Call (.Name x _) [A] [] _ => glC sc x && decide (x = "range") && plainA A && chkE a sc A
    | _ => false
  | .r2 a b, sc, _, e => match e with
    | .Call (.Name x _) [A, B] [] _ => glC sc x && decide (x = "range") && plainA A && plainA B && chkE a sc A && chkE b sc B
    | _ => false
  | .r3 a b c, sc, _, e => match e with
    | .Call (.Name x _) [A, B, C] [] _ => glC sc x && decide (x = "range") && plainA A && plainA B && plainA C && chkE a sc A && chkE b sc B && chkE c sc C
    | _ => false
  | .zip a b, sc, tg, e => match tg, e with
    | .Tuple _ _ _, .Call (.Name x _) [A, B] [] _ => glC sc x && decide (x = "zip") && plainA A && plainA B && chkE a sc A && chkE b sc B
    | _, _ => false
end
/-- a form that lays a new object -/
def chkF (m : ME) (sc : Scope) (e : Expr) : Bool := match m with
  | .lst l => match e with
    | .List L _ => chkEs N l sc L
    | _ => false
  | .dnew => match e with
    | .Dict [] [] _ => true
    | _ => false
  | .lvnew => match e with
    | .Dict [] [] _ => true
    | _ => false
  | .b1 .list1 a => match e with
    | .Call (.Name x _) [A] [] _ => glC sc x && decide (x = "list") && plainA A && chkE N a sc A
    | _ => false
  | .b1 .dict1 a => match e with
    | .Call (.Name x _) [A] [] _ => glC sc x && decide (x = "dict") && plainA A && chkE N a sc A
    | _ => false
  | .bin .add a b => match e with
    | .BinOp A op B _ => decide (op = .Add) && chkE N a sc A && chkE N b sc B
    | _ => false
  | _ => false
variable (sc : Scope)
mutual
def chkS : MS → Stmt → Bool
  | .never, _ => false
  | .ex a, st => match st with
    | .Expr A _ => plainC A && chkE N a sc A
    | _ => false
  | .set i a, st => match st with
    | .Assign [.Name x _] A _ => decide (N[i]? = some x) && okB sc x && plainC A && chkE N a sc A
    | _ => false
  | .setOwn i a, st => match st with
    | .Assign [.Name x _] A _ => decide (N[i]? = some x) && okB sc x && chkF N a sc A
    | _ => false
  | .setLc i a, st => match a with
    | .comp tst elt t it c => match st with
      | .Assign [.Name x p'] (.ListComp E gens scope cpos) pos => decide (N[i]? = some x) && ((decide (sc.names.lookup x = some .local) && (p'.line == cpos.line) &&
        (!(scope.names.any fun (n, k) => n == x && (k == .local || k == .cell))) && decide (sc.kind = .function)) || decide (sc.names.lookup x = some .cell)) && chkE N (.comp tst elt t it c) sc (.ListComp E gens scope cpos)
      | _ => false
    | _ => false
  | .setT l a, st => match st with
    | .Assign [TG] A _ => chkT N (okB sc) (.many l) TG && plainV A && chkE N a sc A
    | _ => false
  | .ret a, st => match st with
    | .Return (some A) _ => chkE N a sc A
    | _ => false
  | .iff c t f, st => match st with
    | .If C A B _ => chkE N c sc C && chkSs t A && chkSs f B
    | _ => false
  | .for_ t it b, st => match st with
    | .For TG IT B [] _ => chkT N (okB sc) t TG && chkI N it sc TG IT && plainS IT && chkSs b B
    | _ => false
  | .while_ c b, st => match st with
    | .While C B [] _ => chkE N c sc C && chkSs b B
    | _ => false
  | .app i a, st => match st with
    | .Expr (.Call (.Attribute (.Name x _) m apos) [A] [] cpos) _ => decide (m = "append") && vr sc N i x && plainA A && (apos.endLine == cpos.line) && chkE N a sc A
    | _ => false
  | .ext i a, st => match st with
    | .Expr (.Call (.Attribute (.Name x _) m apos) [A] [] cpos) _ => decide (m = "extend") && vr sc N i x && plainA A && (apos.endLine == cpos.line) && chkE N a sc A
    | _ => false
  | .put i b a, st => match st with
    | .Assign [.Subscript (.Name x _) B _] A _ => vr sc N i x && plainI B && plainC A && chkE N a sc A && chkE N b sc B
    | _ => false
  | .dput i b a, st => match st with
    | .Assign [.Subscript (.Name x _) B _] A _ => vr sc N i x && plainI B && plainC A && chkE N a sc A && chkE N b sc B
    | _ => false
  | .lput i b a, st => match st with
    | .Assign [.Subscript (.Name x _) B _] A _ => vr sc N i x && plainI B && plainC A && chkE N a sc A && chkE N b sc B
    | _ => false
  | .shPut b a, st => match st with
    | .Assign [.Subscript (.Attribute (.Name x _) m _) B _] A _ => decide (m = "shelf") && vr sc N 0 x && plainC A && chkE N a sc A && chkE N b sc B
    | _ => false
  | .frz _, _ => false
def chkSs : MSs → List Stmt → Bool
  | .nil, l => match l with
    | [] => true
    | _ => false
  | .cons a r, l => match a with
    | .never => true
    | .frz _ => chkSs r l
    | a => match l with
      | A :: R => chkS a A && chkSs r R
      | [] => false
end
end
end Pk
end
section
-- PkSound
set_option linter.all false
set_option maxRecDepth 100000
/-! What is looked at suffices. -/
namespace Pk
open PySem PySem.Spec PyProof.Rows L2
def isBo : Expr → Bool
  | .BoolOp _ _ _ => true
  | _ => false
section
variable {G : Gx} {cl : Cl} {k : Nat} {N : List PySem.Str}
/-- read as a value, as a test -/
def Both (G : Gx) (cl : Cl) (X : Cx) (m : ME) (e : Expr) : Prop := PE X e (wd G cl m) ∧ PT X e (wdT G cl m) ∧ (isBo e = true → PW X e (wdT G cl m))
theorem both_of {X : Cx} {m : ME} {e : Expr} (h : PE X e (wd G cl m)) (he : ∀ whole, isTrue e X.env whole = (do let v ← whole; standAt e.pos; holding [v] (truthy v))) (hb : isBo e = false) : Both G cl X m e :=
  ⟨h, wdT_of h he, fun z => by rw [hb] at z; cases z⟩
theorem both_two {X : Cx} {m : ME} {e : Expr} (h : PE X e (wd G cl m) ∧ PT X e (wdT G cl m)) (hb : isBo e = false) : Both G cl X m e := ⟨h.1, h.2, fun z => by rw [hb] at z; cases z⟩
theorem both_never {X : Cx} {e : Expr} : Both G cl X .never e :=
  ⟨⟨fun pins s σ H Q I ⟨S, ρ, s0, d, s', n, e, q⟩ => by simp only [evE] at e; cases e⟩, ⟨fun pins s σ H Q I ⟨S, ρ, s0, d, s', n, e, q⟩ => by simp only [evE] at e; cases e⟩, fun _ => ⟨fun wh pins s σ H Q I ⟨S, ρ, s0, d, s', n, e, q⟩ => by simp only [evE] at e; cases e⟩⟩
/-- read at once -/
theorem both_b {sc : Scope} {X : Cx} {m : ME} {e : Expr} (g : Gd G cl k sc N X) (hc : chkE N m sc e = true) (h : Both G cl X m e) : PE X e (wdB G cl m) := by
  by_cases hm : ∃ i, m = .var i
  · obtain ⟨i, rfl⟩ := hm
    simp only [chkE] at hc
    split at hc
    · exact s_varB g hc
    · cases hc
  · exact wdB_of h.1 fun i z => hm ⟨i, z⟩
theorem folded_plain {e : Expr} {env : PySem.Env} (h : plainS e = true) : ∀ x, foldedSetIterable e env x = pure x := fun x => by
  cases e <;> first | rfl | cases h
theorem yes_is {c : ME} (h : yes? c = true) : c = .bl true := by
  unfold yes? at h
  split at h
  · rfl
  · cases h
theorem own_map (N : List PySem.Str) (l : List Nat) : (l.map fun i => (N.getD i "", i)).map (·.2) = l := by
  rw [List.map_map]
  exact List.map_id l
theorem chkEs_plain : ∀ {l : MEs} {sc : Scope} {es : List Expr}, chkEs N l sc es = true → es.all plainA = true
  | .nil, sc, es, h => by
    simp only [chkEs] at h
    split at h
    · rfl
    · cases h
  | .cons a l, sc, es, h => by
    simp only [chkEs] at h
    split at h
    · simp only [Bool.and_eq_true] at h
      rw [List.all_cons, h.1.1, chkEs_plain h.2]
      rfl
    · cases h
end
section
variable {G : Gx} {cl : Cl} {k : Nat} {N : List PySem.Str}
/-- sorted(set(..)), zip: to be shown elsewhere -/
structure Rest (G : Gx) (cl : Cl) (k : Nat) (N : List PySem.Str) : Prop where
  sset : ∀ {sc : Scope} {X : Cx} {a : ME} {A : Expr} {p1 p2 q1 q2 : Pos}, Gd G cl k sc N X → glC sc "sorted" = true → glC sc "set" = true → plainA A = true → PE X A (wd G cl a) →
    PE X (.Call (.Name "sorted" p1) [.Call (.Name "set" p2) [A] [] q2] [] q1) (wd G cl (.sset a))
  zip : ∀ {sc : Scope} {X : Cx} {a b : ME} {A B : Expr} {es : List Expr} {j : Nat} {tp p1 q1 : Pos}, Gd G cl k sc N X → glC sc "zip" = true → plainA A = true → plainA B = true → PE X A (wd G cl a) → PE X B (wd G cl b) →
    PI X (.Tuple es j tp) (.Call (.Name "zip" p1) [A, B] [] q1) (wdI G cl (.zip a b))
mutual
theorem sndE (R : Rest G cl k N) : ∀ (m : ME) (sc : Scope) (X : Cx) (e : Expr), Gd G cl k sc N X → chkE N m sc e = true → Both G cl X m e
  | .never, sc, X, e, g, h => both_never
  | .var i, sc, X, e, g, h => by
    simp only [chkE] at h
    split at h
    · exact both_of (s_var g h) (fun _ => rfl) rfl
    · cases h
  | .int n, sc, X, e, g, h => by
    simp only [chkE] at h
    split at h
    · have h := of_decide_eq_true h
      subst h
      exact both_of s_int (fun _ => rfl) rfl
    · cases h
  | .str l, sc, X, e, g, h => by
    simp only [chkE] at h
    split at h
    · exact both_of (s_str (of_decide_eq_true h)) (fun _ => rfl) rfl
    · cases h
  | .bl b, sc, X, e, g, h => by
    simp only [chkE] at h
    split at h
    · have h := of_decide_eq_true h
      subst h
      exact both_of s_bl (fun _ => rfl) rfl
    · cases h
  | .non, sc, X, e, g, h => by
    simp only [chkE] at h
    split at h
    · exact both_of s_non (fun _ => rfl) rfl
    · cases h
  | .glo gl, sc, X, e, g, h => by
    simp only [chkE] at h
    split at h
    · simp only [Bool.and_eq_true, decide_eq_true_eq] at h
      exact both_of (s_glo g h.1 h.2) (fun _ => rfl) rfl
    · cases h
  | .fnv f, sc, X, e, g, h => by
    simp only [chkE] at h
    split at h
    · simp only [Bool.and_eq_true, decide_eq_true_eq] at h
      exact both_of (s_fnv g h.1 h.2) (fun _ => rfl) rfl
    · cases h
  | .bin o a b, sc, X, e, g, h => by
    simp only [chkE] at h
    split at h
    · simp only [Bool.and_eq_true, decide_eq_true_eq] at h
      obtain ⟨⟨rfl, h1⟩, h2⟩ := h
      exact both_of (s_bin g (sndE R a sc X _ g h1).1 (sndE R b sc X _ g h2).1) (fun _ => rfl) rfl
    · cases h
  | .neg a, sc, X, e, g, h => by
    simp only [chkE] at h
    split at h
    · simp only [Bool.and_eq_true, decide_eq_true_eq] at h
      obtain ⟨rfl, h1⟩ := h
      exact both_of (s_neg g (sndE R a sc X _ g h1).1) (fun _ => rfl) rfl
    · cases h
  | .cmp o a b, sc, X, e, g, h => by
    simp only [chkE] at h
    split at h
    · simp only [Bool.and_eq_true, decide_eq_true_eq, Bool.not_eq_true'] at h
      obtain ⟨⟨⟨rfl, h1⟩, h2⟩, h3⟩ := h
      exact both_two (s_cmp g (both_b g h1 (sndE R a sc X _ g h1)) (both_b g h2 (sndE R b sc X _ g h2)) h3) rfl
    · cases h
  | .and2 a b, sc, X, e, g, h => by
    simp only [chkE] at h
    split at h
    · rename_i A B rest pos
      simp only [Bool.and_eq_true] at h
      obtain ⟨h1, h2⟩ := h
      have ha := sndE R a sc X A g h1
      cases rest with
      | nil =>
        have hb := sndE R b sc X B g h2
        have w : PW X (.BoolOp .And [A, B] pos) (wdT G cl (.and2 a b)) := s_andT ha.2.1 (pw_and1 hb.2.1)
        exact ⟨s_and ha.1 (pe_one hb.1), w.pt, fun _ => w⟩
      | cons C r =>
        have hb := sndE R b sc X (.BoolOp .And (B :: C :: r) pos) g h2
        have w : PW X (.BoolOp .And (A :: B :: C :: r) pos) (wdT G cl (.and2 a b)) := s_andT ha.2.1 (hb.2.2 rfl)
        exact ⟨s_and ha.1 hb.1, w.pt, fun _ => w⟩
    · cases h
  | .or2 a b, sc, X, e, g, h => by
    simp only [chkE] at h
    split at h
    · rename_i A B rest pos
      simp only [Bool.and_eq_true] at h
      obtain ⟨h1, h2⟩ := h
      have ha := sndE R a sc X A g h1
      cases rest with
      | nil =>
        have hb := sndE R b sc X B g h2
        have w : PW X (.BoolOp .Or [A, B] pos) (wdT G cl (.or2 a b)) := s_orT ha.2.1 (pw_or1 hb.2.1)
        exact ⟨s_or ha.1 (pe_one hb.1), w.pt, fun _ => w⟩
      | cons C r =>
        have hb := sndE R b sc X (.BoolOp .Or (B :: C :: r) pos) g h2
        have w : PW X (.BoolOp .Or (A :: B :: C :: r) pos) (wdT G cl (.or2 a b)) := s_orT ha.2.1 (hb.2.2 rfl)
        exact ⟨s_or ha.1 hb.1, w.pt, fun _ => w⟩
    · cases h
  | .not1 a, sc, X, e, g, h => by
    simp only [chkE] at h
    split at h
    · have ha := sndE R a sc X _ g h
      exact both_two ⟨s_not ha.1, s_notT ha.2.1⟩ rfl
    · cases h
  | .tup l, sc, X, e, g, h => by
    simp only [chkE] at h
    split at h
    · exact both_of (s_tup (sndEs R l sc X _ g h)) (fun _ => rfl) rfl
    · cases h
  | .lst l, sc, X, e, g, h => by
    simp only [chkE] at h
    split at h
    · exact both_of (s_lst (sndEs R l sc X _ g h)) (fun _ => rfl) rfl
    · cases h
  | .ix a b, sc, X, e, g, h => by
    simp only [chkE] at h
    split at h
    · simp only [Bool.and_eq_true] at h
      obtain ⟨⟨h1, h2⟩, h3⟩ := h
      exact both_of (s_ix g (both_b g h2 (sndE R a sc X _ g h2)) (sndE R b sc X _ g h3).1 h1) (fun _ => rfl) rfl
    · cases h
  | .sl a lo hi, sc, X, e, g, h => by
    simp only [chkE] at h
    split at h
    · simp only [Bool.and_eq_true] at h
      obtain ⟨⟨h1, h2⟩, h3⟩ := h
      exact both_of (s_sl g (both_b g h1 (sndE R a sc X _ g h1)) (sndO R lo sc X _ g h2) (sndO R hi sc X _ g h3)) (fun _ => rfl) rfl
    · cases h
  | .call f l, sc, X, e, g, h => by
    simp only [chkE] at h
    split at h
    · simp only [Bool.and_eq_true, decide_eq_true_eq] at h
      obtain ⟨⟨h1, h2⟩, h3⟩ := h
      exact both_of (s_call g h2 h1 (chkEs_plain h3) (sndEs R l sc X _ g h3)) (fun _ => rfl) rfl
    · cases h
  | .callv i l, sc, X, e, g, h => by
    simp only [chkE] at h
    split at h
    · simp only [Bool.and_eq_true] at h
      obtain ⟨h1, h2⟩ := h
      exact both_of (s_callv g h1 (chkEs_plain h2) (sndEs R l sc X _ g h2)) (fun _ => rfl) rfl
    · cases h
  | .meth f o l, sc, X, e, g, h => by
    simp only [chkE] at h
    split at h
    · simp only [Bool.and_eq_true, decide_eq_true_eq] at h
      obtain ⟨⟨⟨⟨⟨h1, h2⟩, h3⟩, h4⟩, h5⟩, h6⟩ := h
      exact both_of (s_meth (i := 0) g h1 h2 h3 h4 (sndE R o sc X _ g h5).1 (chkEs_plain h6) (sndEs R l sc X _ g h6)) (fun _ => rfl) rfl
    · cases h
  | .b1 b a, sc, X, e, g, h => by
    simp only [chkE] at h
    split at h
    · rename_i x p A kws pos
      simp only [Bool.and_eq_true, decide_eq_true_eq] at h
      obtain ⟨⟨⟨⟨h1, h2⟩, h3⟩, h4⟩, h5⟩ := h
      have ha := both_b g h4 (sndE R a sc X _ g h4)
      by_cases hb : b = .maxd
      · subst hb
        simp only at h5
        split at h5
        · simp only [Bool.and_eq_true, decide_eq_true_eq] at h5
          obtain ⟨rfl, rfl⟩ := h5
          subst h2
          exact both_of (s_maxd g h1 h3 ha) (fun _ => rfl) rfl
        · cases h5
      · have h7 : kws = [] := by
          cases b <;> first | exact absurd rfl hb | (simp only at h5; split at h5 <;> first | rfl | cases h5)
        subst h7
        exact both_of (s_b1 g hb h2 h1 h3 ha) (fun _ => rfl) rfl
    · cases h
  | .b2 o a b, sc, X, e, g, h => by
    simp only [chkE] at h
    split at h
    · simp only [Bool.and_eq_true, decide_eq_true_eq] at h
      obtain ⟨⟨⟨⟨⟨h1, h2⟩, h3⟩, h4⟩, h5⟩, h6⟩ := h
      exact both_of (s_b2 g h2 h1 h3 h4 (sndE R a sc X _ g h5).1 (sndE R b sc X _ g h6).1) (fun _ => rfl) rfl
    · cases h
  | .lrng a, sc, X, e, g, h => by
    simp only [chkE] at h
    split at h
    · simp only [Bool.and_eq_true, decide_eq_true_eq] at h
      obtain ⟨⟨⟨⟨⟨h1, rfl⟩, h3⟩, rfl⟩, h5⟩, h6⟩ := h
      exact both_of (s_lrng g h1 h3 h5 (sndE R a sc X _ g h6).1) (fun _ => rfl) rfl
    · cases h
  | .sset a, sc, X, e, g, h => by
    simp only [chkE] at h
    split at h
    · simp only [Bool.and_eq_true, decide_eq_true_eq] at h
      obtain ⟨⟨⟨⟨⟨h1, rfl⟩, h3⟩, rfl⟩, h5⟩, h6⟩ := h
      exact both_of (R.sset g h1 h3 h5 (sndE R a sc X _ g h6).1) (fun _ => rfl) rfl
    · cases h
  | .isi a t, sc, X, e, g, h => by
    simp only [chkE] at h
    split at h
    · simp only [Bool.and_eq_true, decide_eq_true_eq] at h
      obtain ⟨⟨⟨⟨⟨h1, rfl⟩, h3⟩, h4⟩, h5⟩, h6⟩ := h
      exact both_of (s_isi g h1 h3 h4 h5 (sndE R a sc X _ g h6).1) (fun _ => rfl) rfl
    · cases h
  | .split a b, sc, X, e, g, h => by
    simp only [chkE] at h
    split at h
    · simp only [Bool.and_eq_true, decide_eq_true_eq] at h
      obtain ⟨⟨⟨⟨⟨rfl, h2⟩, h3⟩, h4⟩, h5⟩, h6⟩ := h
      exact both_of (s_split g h3 h4 h2 (sndE R a sc X _ g h5).1 (sndE R b sc X _ g h6).1) (fun _ => rfl) rfl
    · cases h
  | .join a b, sc, X, e, g, h => by
    simp only [chkE] at h
    split at h
    · simp only [Bool.and_eq_true, decide_eq_true_eq] at h
      obtain ⟨⟨⟨⟨⟨rfl, h2⟩, h3⟩, h4⟩, h5⟩, h6⟩ := h
      exact both_of (s_join g h3 h4 h2 (sndE R a sc X _ g h5).1 (both_b g h6 (sndE R b sc X _ g h6))) (fun _ => rfl) rfl
    · cases h
  | .part a b, sc, X, e, g, h => by
    simp only [chkE] at h
    split at h
    · simp only [Bool.and_eq_true, decide_eq_true_eq] at h
      obtain ⟨⟨⟨⟨⟨rfl, h2⟩, h3⟩, h4⟩, h5⟩, h6⟩ := h
      exact both_of (s_part g h3 h4 h2 (sndE R a sc X _ g h5).1 (sndE R b sc X _ g h6).1) (fun _ => rfl) rfl
    · cases h
  | .fget a, sc, X, e, g, h => by
    simp only [chkE] at h
    split at h
    · simp only [Bool.and_eq_true, decide_eq_true_eq] at h
      obtain ⟨⟨⟨⟨⟨h1, rfl⟩, rfl⟩, h4⟩, h5⟩, h6⟩ := h
      exact both_of (s_fget g h1 h5 h4 (sndE R a sc X _ g h6).1) (fun _ => rfl) rfl
    · cases h
  | .fix a, sc, X, e, g, h => by
    simp only [chkE] at h
    split at h
    · simp only [Bool.and_eq_true, decide_eq_true_eq] at h
      obtain ⟨⟨⟨h1, rfl⟩, h3⟩, h4⟩ := h
      exact both_of (s_fix g h1 h3 (sndE R a sc X _ g h4).1) (fun _ => rfl) rfl
    · cases h
  | .disp k1 v1 k2 v2 a, sc, X, e, g, h => by
    simp only [chkE] at h
    split at h
    · simp only [Bool.and_eq_true, decide_eq_true_eq] at h
      obtain ⟨⟨⟨⟨⟨⟨h1, h2⟩, h3⟩, h4⟩, h5⟩, h6⟩, h7⟩ := h
      exact both_of (s_disp g h1 h2 h3 h4 h5 h6 (sndE R a sc X _ g h7).1) (fun _ => rfl) rfl
    · cases h
  | .fstr p a q b, sc, X, e, g, h => by
    simp only [chkE] at h
    split at h
    · simp only [Bool.and_eq_true, decide_eq_true_eq] at h
      obtain ⟨⟨⟨⟨⟨⟨⟨rfl, rfl⟩, h3⟩, h4⟩, h5⟩, h6⟩, h7⟩, h8⟩ := h
      exact both_of (s_fstr g h3 h4 h5 h6 (sndE R a sc X _ g h7).1 (sndE R b sc X _ g h8).1) (fun _ => rfl) rfl
    · cases h
  | .comp tst elt t it c, sc, X, e, g, h => by
    simp only [chkE] at h
    split at h
    · rename_i E TG IT ifs z scope pos
      simp only [Bool.and_eq_true, decide_eq_true_eq] at h
      obtain ⟨⟨⟨⟨⟨⟨rfl, h1⟩, h2⟩, h3⟩, h4⟩, h5⟩, h6⟩ := h
      have hi := sndI R it sc X TG IT g h1
      have he : ∀ X', Gd G cl k (relS scope sc) N X' → PE X' E (wd G cl elt) := fun X' g' => (sndE R elt (relS scope sc) X' E g' h6).1
      cases tst with
      | true =>
        rw [if_pos rfl] at h5
        split at h5
        · rename_i C
          exact both_of (s_comp g (fun z => by cases z) hi (blkOk_by h3) (own_map N _) h4 (fun X' g' => by
            unfold tT
            rw [if_pos rfl]
            exact pts_one (sndE R c (relS scope sc) X' C g' h5).2.1) he (folded_plain h2)) (fun _ => rfl) rfl
        · cases h5
      | false =>
        rw [if_neg (by decide)] at h5
        split at h5
        · have hc := yes_is h5
          subst hc
          exact both_of (s_comp g (fun _ => rfl) hi (blkOk_by h3) (own_map N _) h4 (fun X' g' => by
            unfold tT
            rw [if_neg (by decide)]
            exact pts_nil) he (folded_plain h2)) (fun _ => rfl) rfl
        · cases h5
    · cases h
  | .dnew, sc, X, e, g, h => by
    simp only [chkE] at h
    split at h
    · exact both_of s_dnew (fun _ => rfl) rfl
    · cases h
  | .lvnew, sc, X, e, g, h => by
    simp only [chkE] at h
    cases h
  | .shNot a, sc, X, e, g, h => by
    simp only [chkE] at h
    split at h
    · simp only [Bool.and_eq_true, decide_eq_true_eq] at h
      obtain ⟨⟨⟨rfl, rfl⟩, h3⟩, h4⟩ := h
      exact both_two (s_shNot g h3 (sndE R a sc X _ g h4).1) rfl
    · cases h
  | .shGet a, sc, X, e, g, h => by
    simp only [chkE] at h
    split at h
    · simp only [Bool.and_eq_true, decide_eq_true_eq] at h
      obtain ⟨⟨⟨rfl, h2⟩, h3⟩, h4⟩ := h
      exact both_of (s_shGet g h2 h3 (sndE R a sc X _ g h4).1) (fun _ => rfl) rfl
    · cases h
theorem sndEs (R : Rest G cl k N) : ∀ (l : MEs) (sc : Scope) (X : Cx) (es : List Expr), Gd G cl k sc N X → chkEs N l sc es = true → PA X es (wdA G cl l)
  | .nil, sc, X, es, g, h => by
    simp only [chkEs] at h
    split at h
    · exact s_nil
    · cases h
  | .cons a l, sc, X, es, g, h => by
    simp only [chkEs] at h
    split at h
    · simp only [Bool.and_eq_true] at h
      obtain ⟨⟨h1, h2⟩, h3⟩ := h
      exact s_cons h1 (sndE R a sc X _ g h2).1 (sndEs R l sc X _ g h3)
    · cases h
theorem sndO (R : Rest G cl k N) : ∀ (m : MO) (sc : Scope) (X : Cx) (e : Option Expr), Gd G cl k sc N X → chkO N m sc e = true → PO X e (wdO G cl m)
  | .no, sc, X, e, g, h => by
    simp only [chkO] at h
    split at h
    · exact s_no
    · cases h
  | .ok a, sc, X, e, g, h => by
    simp only [chkO] at h
    split at h
    · exact s_ok (sndE R a sc X _ g h).1
    · cases h
theorem sndI (R : Rest G cl k N) : ∀ (m : MI) (sc : Scope) (X : Cx) (tg e : Expr), Gd G cl k sc N X → chkI N m sc tg e = true → PI X tg e (wdI G cl m)
  | .val a, sc, X, tg, e, g, h => by
    simp only [chkI] at h
    exact s_val g (sndE R a sc X _ g h).1
  | .r1 a, sc, X, tg, e, g, h => by
    simp only [chkI] at h
    split at h
    · simp only [Bool.and_eq_true, decide_eq_true_eq] at h
      obtain ⟨⟨⟨h1, rfl⟩, h3⟩, h4⟩ := h
      exact s_r1 g h1 h3 (sndE R a sc X _ g h4).1
    · cases h
  | .r2 a b, sc, X, tg, e, g, h => by
    simp only [chkI] at h
    split at h
    · simp only [Bool.and_eq_true, decide_eq_true_eq] at h
      obtain ⟨⟨⟨⟨⟨h1, rfl⟩, h3⟩, h4⟩, h5⟩, h6⟩ := h
      exact s_r2 g h1 h3 h4 (sndE R a sc X _ g h5).1 (sndE R b sc X _ g h6).1
    · cases h
  | .r3 a b c, sc, X, tg, e, g, h => by
    simp only [chkI] at h
    split at h
    · simp only [Bool.and_eq_true, decide_eq_true_eq] at h
      obtain ⟨⟨⟨⟨⟨⟨⟨h1, rfl⟩, h3⟩, h4⟩, h5⟩, h6⟩, h7⟩, h8⟩ := h
      exact s_r3 g h1 h3 h4 h5 (sndE R a sc X _ g h6).1 (sndE R b sc X _ g h7).1 (sndE R c sc X _ g h8).1
    · cases h
  | .zip a b, sc, X, tg, e, g, h => by
    simp only [chkI] at h
    split at h
    · simp only [Bool.and_eq_true, decide_eq_true_eq] at h
      obtain ⟨⟨⟨⟨⟨h1, rfl⟩, h3⟩, h4⟩, h5⟩, h6⟩ := h
      exact R.zip g h1 h3 h4 (sndE R a sc X _ g h5).1 (sndE R b sc X _ g h6).1
    · cases h
end
theorem sndF (R : Rest G cl k N) {m : ME} {sc : Scope} {X : Cx} {e : Expr} (g : Gd G cl k sc N X) (h : chkF N m sc e = true) : (∃ a b A B p, m = .bin .add a b ∧ e = .BinOp A .Add B p ∧ PE X A (wd G cl a) ∧ PE X B (wd G cl b)) ∨ (PE X e (wdF G cl m) ∧ plainC e = true) := by
  unfold chkF at h
  split at h
  · split at h
    · exact .inr ⟨f_lst (sndEs R _ sc X _ g h), rfl⟩
    · cases h
  · split at h
    · exact .inr ⟨f_dnew, rfl⟩
    · cases h
  · split at h
    · exact .inr ⟨f_lvnew g.C, rfl⟩
    · cases h
  · split at h
    · simp only [Bool.and_eq_true, decide_eq_true_eq] at h
      obtain ⟨⟨⟨h1, rfl⟩, h3⟩, h4⟩ := h
      exact .inr ⟨f_list g h1 h3 (both_b g h4 (sndE R _ sc X _ g h4)), rfl⟩
    · cases h
  · split at h
    · simp only [Bool.and_eq_true, decide_eq_true_eq] at h
      obtain ⟨⟨⟨h1, rfl⟩, h3⟩, h4⟩ := h
      exact .inr ⟨f_dict g h1 h3 (both_b g h4 (sndE R _ sc X _ g h4)), rfl⟩
    · cases h
  · split at h
    · simp only [Bool.and_eq_true, decide_eq_true_eq] at h
      obtain ⟨⟨rfl, h1⟩, h2⟩ := h
      exact .inl ⟨_, _, _, _, _, rfl, rfl, (sndE R _ sc X _ g h1).1, (sndE R _ sc X _ g h2).1⟩
    · cases h
  · cases h
end
end Pk
end
section
-- PkSoundS
set_option linter.all false
set_option maxRecDepth 100000
/-! What is looked at suffices: statements. -/
namespace Pk
open PySem PySem.Spec PyProof.Rows L2
section
variable {G : Gx} {cl : Cl} {k : Nat} {N : List PySem.Str} {sc : Scope} {X : Cx}
mutual
theorem sndS (R : Rest G cl k N) (g : Gd G cl k sc N X) (hf : ∀ x, X.fn x = true) : ∀ (m : MS) (st : Stmt), chkS N sc m st = true → PS X st (wdS G cl m)
  | .never, st, h => by
    simp only [chkS] at h
    cases h
  | .ex a, st, h => by
    simp only [chkS] at h
    split at h
    · simp only [Bool.and_eq_true] at h
      exact t_ex g (sndE R a sc X _ g h.2).1 (sw_plainC h.1)
    · cases h
  | .set i a, st, h => by
    simp only [chkS] at h
    split at h
    · simp only [Bool.and_eq_true, decide_eq_true_eq] at h
      obtain ⟨⟨⟨h1, h2⟩, h3⟩, h4⟩ := h
      exact t_set g hf h1 h2 (sndE R a sc X _ g h4).1 (sw_plainC h3)
    · cases h
  | .setOwn i a, st, h => by
    simp only [chkS] at h
    split at h
    · simp only [Bool.and_eq_true, decide_eq_true_eq] at h
      obtain ⟨⟨h1, h2⟩, h3⟩ := h
      rcases sndF R g h3 with ⟨b, c, B, C, p, rfl, rfl, hb, hc⟩ | ⟨ha, hp⟩
      · exact t_ownAdd g hf h1 h2 hb hc
      · exact t_own g hf h1 h2 ha (sw_plainC hp)
    · cases h
  | .setLc i a, st, h => by
    simp only [chkS] at h
    split at h
    · rename_i tst elt t it c
      split at h
      · rename_i x p' E gens scope cpos pos
        simp only [Bool.and_eq_true, decide_eq_true_eq, Bool.or_eq_true, Bool.not_eq_true'] at h
        obtain ⟨⟨h1, h2⟩, h3⟩ := h
        rcases h2 with ⟨⟨⟨h4, h5⟩, h6⟩, h7⟩ | h4
        · simp only [chkE] at h3
          split at h3
          · rename_i E TG IT ifs z scope pos heq
            cases heq
            simp only [Bool.and_eq_true, decide_eq_true_eq] at h3
            obtain ⟨⟨⟨⟨⟨⟨rfl, j1⟩, j2⟩, j3⟩, j4⟩, j5⟩, j6⟩ := h3
            have hi := sndI R it sc X TG IT g j1
            have he : ∀ X', Gd G cl k (relS scope sc) N X' → PE X' E (wd G cl elt) := fun X' g' => (sndE R elt (relS scope sc) X' E g' j6).1
            cases tst with
            | true =>
              rw [if_pos rfl] at j5
              split at j5
              · rename_i C
                exact t_setLc g hf h1 h4 h5 h6 (fun z => by cases z) hi (blkOk_by j3) (own_map N _) j4 (fun X' g' => by
                  unfold tT
                  rw [if_pos rfl]
                  exact pts_one (sndE R c (relS scope sc) X' C g' j5).2.1) he (folded_plain j2) h7
              · cases j5
            | false =>
              rw [if_neg (by decide)] at j5
              split at j5
              · have hc := yes_is j5
                subst hc
                exact t_setLc g hf h1 h4 h5 h6 (fun _ => rfl) hi (blkOk_by j3) (own_map N _) j4 (fun X' g' => by
                  unfold tT
                  rw [if_neg (by decide)]
                  exact pts_nil) he (folded_plain j2) h7
              · cases j5
          · cases h3
        · have ho : okB sc x = true := by
            unfold okB
            rw [h4]
          refine PS.imp (t_set (pos' := p') g hf h1 ho (sndE R (.comp tst elt t it c) sc X _ g h3).1 (sw_cell (by rw [g.scp]; exact h4))) fun E' σ H ⟨S, ρ, s, o, n, e, q⟩ => ⟨S, ρ, s, o, n, ?_, q⟩
          unfold exS at e ⊢
          exact e
      · cases h
    · cases h
  | .setT l a, st, h => by
    simp only [chkS] at h
    split at h
    · rename_i TG A pos
      simp only [Bool.and_eq_true] at h
      obtain ⟨⟨h1, h2⟩, h3⟩ := h
      refine t_setT g hf h1 (sndE R a sc X _ g h3).1 (sws_plain h2) (swd_plain h2) ?_
      cases TG <;> first | rfl | (unfold chkT at h1; cases h1)
    · cases h
  | .ret a, st, h => by
    simp only [chkS] at h
    split at h
    · by_cases hv : ∃ i, a = .var i
      · obtain ⟨i, rfl⟩ := hv
        simp only [chkE] at h
        split at h
        · exact t_retV g h
        · cases h
      · exact t_ret g (sndE R a sc X _ g h).1 fun i z => hv ⟨i, z⟩
    · cases h
  | .iff c t f, st, h => by
    simp only [chkS] at h
    split at h
    · simp only [Bool.and_eq_true] at h
      obtain ⟨⟨h1, h2⟩, h3⟩ := h
      exact t_if (sndE R c sc X _ g h1).2.1 (sndSs R g hf t _ h2) (sndSs R g hf f _ h3)
    · cases h
  | .for_ t it b, st, h => by
    simp only [chkS] at h
    split at h
    · simp only [Bool.and_eq_true] at h
      obtain ⟨⟨⟨h1, h2⟩, h3⟩, h4⟩ := h
      exact t_for g hf h1 (sndI R it sc X _ _ g h2) (sndSs R g hf b _ h4) (folded_plain h3)
    · cases h
  | .while_ c b, st, h => by
    simp only [chkS] at h
    split at h
    · simp only [Bool.and_eq_true] at h
      exact t_while g (sndE R c sc X _ g h.1).2.1 (sndSs R g hf b _ h.2)
    · cases h
  | .app i a, st, h => by
    simp only [chkS] at h
    split at h
    · simp only [Bool.and_eq_true, decide_eq_true_eq] at h
      obtain ⟨⟨⟨⟨rfl, h2⟩, h3⟩, h4⟩, h5⟩ := h
      exact t_app g h2 h3 h4 (sndE R a sc X _ g h5).1
    · cases h
  | .ext i a, st, h => by
    simp only [chkS] at h
    split at h
    · simp only [Bool.and_eq_true, decide_eq_true_eq] at h
      obtain ⟨⟨⟨⟨rfl, h2⟩, h3⟩, h4⟩, h5⟩ := h
      exact t_ext g h2 h3 h4 (both_b g h5 (sndE R a sc X _ g h5))
    · cases h
  | .put i b a, st, h => by
    simp only [chkS] at h
    split at h
    · simp only [Bool.and_eq_true] at h
      obtain ⟨⟨⟨⟨h1, h2⟩, h3⟩, h4⟩, h5⟩ := h
      exact t_put g h1 h2 h3 (sndE R a sc X _ g h4).1 (sndE R b sc X _ g h5).1
    · cases h
  | .dput i b a, st, h => by
    simp only [chkS] at h
    split at h
    · simp only [Bool.and_eq_true] at h
      obtain ⟨⟨⟨⟨h1, h2⟩, h3⟩, h4⟩, h5⟩ := h
      exact t_dput g h1 h2 h3 (sndE R a sc X _ g h4).1 (sndE R b sc X _ g h5).1
    · cases h
  | .lput i b a, st, h => by
    simp only [chkS] at h
    split at h
    · simp only [Bool.and_eq_true] at h
      obtain ⟨⟨⟨⟨h1, h2⟩, h3⟩, h4⟩, h5⟩ := h
      exact t_lput g h1 h2 h3 (sndE R a sc X _ g h4).1 (sndE R b sc X _ g h5).1
    · cases h
  | .shPut b a, st, h => by
    simp only [chkS] at h
    split at h
    · simp only [Bool.and_eq_true, decide_eq_true_eq] at h
      obtain ⟨⟨⟨⟨rfl, h2⟩, h3⟩, h4⟩, h5⟩ := h
      exact t_shPut g h2 h3 (sndE R a sc X _ g h4).1 (sndE R b sc X _ g h5).1
    · cases h
  | .frz _, st, h => by
    simp only [chkS] at h
    cases h
theorem sndSs (R : Rest G cl k N) (g : Gd G cl k sc N X) (hf : ∀ x, X.fn x = true) : ∀ (m : MSs) (l : List Stmt), chkSs N sc m l = true → PSs X l (wdSs G cl m)
  | .nil, l, h => by
    simp only [chkSs] at h
    split at h
    · exact b_nil
    · cases h
  | .cons a r, l, h => by
    by_cases h1 : a = .never
    · subst h1
      exact b_never
    by_cases h2 : ∃ i, a = .frz i
    · obtain ⟨i, rfl⟩ := h2
      simp only [chkSs] at h
      exact b_frz (sndSs R g hf r l h)
    · have h3 : ∃ A T, l = A :: T ∧ chkS N sc a A = true ∧ chkSs N sc r T = true := by
        cases l with
        | nil => cases a <;> first | exact absurd rfl h1 | exact absurd ⟨_, rfl⟩ h2 | (simp only [chkSs] at h; cases h)
        | cons A T =>
          refine ⟨A, T, rfl, ?_⟩
          cases a <;> first | exact absurd rfl h1 | exact absurd ⟨_, rfl⟩ h2 | (simp only [chkSs, Bool.and_eq_true] at h; exact h)
      obtain ⟨A, T, rfl, h4, h5⟩ := h3
      exact b_cons (sndS R g hf a A h4) (sndSs R g hf r T h5)
end
end
end Pk
end
section
-- PkDefs
set_option linter.all false
set_option maxRecDepth 100000
namespace Pk
open PySem PySem.Spec PyProof.Rows L2
/-- a def's text -/
def dOf : Fn → He.DefD
  | .is_whole => d_is_whole
  | .count_of => d_count_of
  | .is_name => d_is_name
  | .is_point => d_is_point
  | .is_pair => d_is_pair
  | .rises => d_rises
  | .are_named => d_are_named
  | .is_world => d_is_world
  | .tongue_of => d_tongue_of
  | .what_has => d_what_has
  | .bears => d_bears
  | .leads => d_leads
  | .check_tongue => d_check_tongue
  | .check_small => d_check_small
  | .check_two => d_check_two
  | .beside => d_beside
  | .same_marks => d_same_marks
  | .agree => d_agree
  | .joins => d_joins
  | .with_pair => d_with_pair
  | .further => d_further
  | .pairings => d_pairings
  | .is_saved => d_is_saved
  | .is_answered => d_is_answered
  | .next_layer => d_next_layer
  | .layers => d_layers
  | .is_letter => d_is_letter
  | .parts_of => d_parts_of
  | .letters_here => d_letters_here
  | .depth_of => d_depth_of
  | .free_of => d_free_of
  | .strange => d_strange
  | .with_letter => d_with_letter
  | .joined => d_joined
  | .often => d_often
  | .for_each => d_for_each
  | .true_at => d_true_at
  | .holds => d_holds
  | .show_saying => d_show_saying
  | .word_end => d_word_end
  | .past => d_past
  | .letter_at => d_letter_at
  | .read_named => d_read_named
  | .read_many => d_read_many
  | .read_joined => d_read_joined
  | .read_at => d_read_at
  | .read_saying => d_read_saying
  | .show_world => d_show_world
  | .read_point => d_read_point
  | .read_pair => d_read_pair
  | .read_part => d_read_part
  | .read_world => d_read_world
  | .fits_form => d_fits_form
  | .law_cell => d_law_cell
  | .law_names => d_law_names
  | .law_some => d_law_some
  | .law_pairs => d_law_pairs
  | .law_tongue => d_law_tongue
  | .law_world => d_law_world
  | .law_even => d_law_even
  | .law_shaped => d_law_shaped
  | .law_order => d_law_order
  | .law_turned => d_law_turned
  | .law_flipped => d_law_flipped
  | .law_changed => d_law_changed
  | .law_two => d_law_two
  | .law_text => d_law_text
  | .law_letters => d_law_letters
  | .law_leaf => d_law_leaf
  | .law_wrapped => d_law_wrapped
  | .law_joined => d_law_joined
  | .law_grown => d_law_grown
  | .law_enough => d_law_enough
  | .law_true => d_law_true
  | .law_plain => d_law_plain
  | .law_closed => d_law_closed
  | .law_sum => d_law_sum
  | .law_of_tongue => d_law_of_tongue
  | .law_alike => d_law_alike
  | .law_about => d_law_about
  | .law => d_law
  | .desk_init => d_Desk_init
  | .desk_world_of => d_Desk_world_of
  | .desk_say => d_Desk_say
  | .desk_about_one => d_Desk_about_one
  | .desk_about_two => d_Desk_about_two
def allFn : List Fn := [.is_whole, .count_of, .is_name, .is_point, .is_pair, .rises, .are_named, .is_world, .tongue_of, .what_has, .bears, .leads, .check_tongue, .check_small, .check_two, .beside, .same_marks, .agree, .joins, .with_pair, .further, .pairings, .is_saved, .is_answered, .next_layer, .layers, .is_letter, .parts_of, .letters_here, .depth_of, .free_of, .strange, .with_letter, .joined, .often, .for_each, .true_at, .holds, .show_saying, .word_end, .past, .letter_at, .read_named, .read_many, .read_joined, .read_at, .read_saying, .show_world, .read_point, .read_pair, .read_part, .read_world, .fits_form, .law_cell, .law_names, .law_some, .law_pairs, .law_tongue, .law_world, .law_even, .law_shaped, .law_order, .law_turned, .law_flipped, .law_changed, .law_two, .law_text, .law_letters, .law_leaf, .law_wrapped, .law_joined, .law_grown, .law_enough, .law_true, .law_plain, .law_closed, .law_sum, .law_of_tongue, .law_alike, .law_about, .law, .desk_init, .desk_world_of, .desk_say, .desk_about_one, .desk_about_two]
end Pk
end
section
-- PkBind
set_option linter.all false
set_option maxRecDepth 100000
/-! How each def binds its arguments; its scope. -/
namespace Pk
open PySem PySem.W PySem.Spec PyProof.Rows L2
def psF (f : Fn) : List PySem.Str := (nm f).take (np f)
def BindOk (f : Fn) : Prop := ∀ (kV doc pm : Value) (an : Option Addr) (cdv ct : Value) (us : List Value), us.length = np f →
  bindArgs (PySem.W.fnOf (dOf f).name (dOf f).qual (dOf f).params (dOf f).body (dOf f).scope .none kV doc pm an cdv ct) ⟨us, []⟩ = pure ((psF f).zip us)
theorem bo_is_whole : BindOk .is_whole
  | _, _, _, _, _, _, [_], _ => by kernel_rfl
theorem bo_count_of : BindOk .count_of
  | _, _, _, _, _, _, [_, _, _], _ => by kernel_rfl
theorem bo_is_name : BindOk .is_name
  | _, _, _, _, _, _, [_], _ => by kernel_rfl
theorem bo_is_point : BindOk .is_point
  | _, _, _, _, _, _, [_, _], _ => by kernel_rfl
theorem bo_is_pair : BindOk .is_pair
  | _, _, _, _, _, _, [_, _], _ => by kernel_rfl
theorem bo_rises : BindOk .rises
  | _, _, _, _, _, _, [_], _ => by kernel_rfl
theorem bo_are_named : BindOk .are_named
  | _, _, _, _, _, _, [_, _, _], _ => by kernel_rfl
theorem bo_is_world : BindOk .is_world
  | _, _, _, _, _, _, [_], _ => by kernel_rfl
theorem bo_tongue_of : BindOk .tongue_of
  | _, _, _, _, _, _, [_], _ => by kernel_rfl
theorem bo_what_has : BindOk .what_has
  | _, _, _, _, _, _, [_, _], _ => by kernel_rfl
theorem bo_bears : BindOk .bears
  | _, _, _, _, _, _, [_, _, _], _ => by kernel_rfl
theorem bo_leads : BindOk .leads
  | _, _, _, _, _, _, [_, _, _, _], _ => by kernel_rfl
theorem bo_check_tongue : BindOk .check_tongue
  | _, _, _, _, _, _, [_, _], _ => by kernel_rfl
theorem bo_check_small : BindOk .check_small
  | _, _, _, _, _, _, [_], _ => by kernel_rfl
theorem bo_check_two : BindOk .check_two
  | _, _, _, _, _, _, [_, _], _ => by kernel_rfl
theorem bo_beside : BindOk .beside
  | _, _, _, _, _, _, [_, _], _ => by kernel_rfl
theorem bo_same_marks : BindOk .same_marks
  | _, _, _, _, _, _, [_, _, _], _ => by kernel_rfl
theorem bo_agree : BindOk .agree
  | _, _, _, _, _, _, [_, _, _, _], _ => by kernel_rfl
theorem bo_joins : BindOk .joins
  | _, _, _, _, _, _, [_, _, _, _], _ => by kernel_rfl
theorem bo_with_pair : BindOk .with_pair
  | _, _, _, _, _, _, [_, _], _ => by kernel_rfl
theorem bo_further : BindOk .further
  | _, _, _, _, _, _, [_, _, _], _ => by kernel_rfl
theorem bo_pairings : BindOk .pairings
  | _, _, _, _, _, _, [_, _, _], _ => by kernel_rfl
theorem bo_is_saved : BindOk .is_saved
  | _, _, _, _, _, _, [_, _, _], _ => by kernel_rfl
theorem bo_is_answered : BindOk .is_answered
  | _, _, _, _, _, _, [_, _, _, _], _ => by kernel_rfl
theorem bo_next_layer : BindOk .next_layer
  | _, _, _, _, _, _, [_, _, _], _ => by kernel_rfl
theorem bo_layers : BindOk .layers
  | _, _, _, _, _, _, [_, _, _], _ => by kernel_rfl
theorem bo_is_letter : BindOk .is_letter
  | _, _, _, _, _, _, [_], _ => by kernel_rfl
theorem bo_parts_of : BindOk .parts_of
  | _, _, _, _, _, _, [_], _ => by kernel_rfl
theorem bo_letters_here : BindOk .letters_here
  | _, _, _, _, _, _, [_], _ => by kernel_rfl
theorem bo_depth_of : BindOk .depth_of
  | _, _, _, _, _, _, [_], _ => by kernel_rfl
theorem bo_free_of : BindOk .free_of
  | _, _, _, _, _, _, [_], _ => by kernel_rfl
theorem bo_strange : BindOk .strange
  | _, _, _, _, _, _, [_, _], _ => by kernel_rfl
theorem bo_with_letter : BindOk .with_letter
  | _, _, _, _, _, _, [_, _, _], _ => by kernel_rfl
theorem bo_joined : BindOk .joined
  | _, _, _, _, _, _, [_, _, _, _], _ => by kernel_rfl
theorem bo_often : BindOk .often
  | _, _, _, _, _, _, [_, _, _, _, _], _ => by kernel_rfl
theorem bo_for_each : BindOk .for_each
  | _, _, _, _, _, _, [_, _, _, _], _ => by kernel_rfl
theorem bo_true_at : BindOk .true_at
  | _, _, _, _, _, _, [_, _, _], _ => by kernel_rfl
theorem bo_show_saying : BindOk .show_saying
  | _, _, _, _, _, _, [_], _ => by kernel_rfl
theorem bo_word_end : BindOk .word_end
  | _, _, _, _, _, _, [_, _], _ => by kernel_rfl
theorem bo_past : BindOk .past
  | _, _, _, _, _, _, [_, _, _], _ => by kernel_rfl
theorem bo_letter_at : BindOk .letter_at
  | _, _, _, _, _, _, [_, _], _ => by kernel_rfl
theorem bo_read_named : BindOk .read_named
  | _, _, _, _, _, _, [_, _, _], _ => by kernel_rfl
theorem bo_read_many : BindOk .read_many
  | _, _, _, _, _, _, [_, _, _], _ => by kernel_rfl
theorem bo_read_joined : BindOk .read_joined
  | _, _, _, _, _, _, [_, _], _ => by kernel_rfl
theorem bo_read_at : BindOk .read_at
  | _, _, _, _, _, _, [_, _], _ => by kernel_rfl
theorem bo_read_saying : BindOk .read_saying
  | _, _, _, _, _, _, [_], _ => by kernel_rfl
theorem bo_show_world : BindOk .show_world
  | _, _, _, _, _, _, [_], _ => by kernel_rfl
theorem bo_read_point : BindOk .read_point
  | _, _, _, _, _, _, [_], _ => by kernel_rfl
theorem bo_read_pair : BindOk .read_pair
  | _, _, _, _, _, _, [_], _ => by kernel_rfl
theorem bo_read_part : BindOk .read_part
  | _, _, _, _, _, _, [_], _ => by kernel_rfl
theorem bo_read_world : BindOk .read_world
  | _, _, _, _, _, _, [_], _ => by kernel_rfl
theorem bo_fits_form : BindOk .fits_form
  | _, _, _, _, _, _, [_], _ => by kernel_rfl
theorem bo_law_cell : BindOk .law_cell
  | _, _, _, _, _, _, [_, _], _ => by kernel_rfl
theorem bo_law_names : BindOk .law_names
  | _, _, _, _, _, _, [_, _], _ => by kernel_rfl
theorem bo_law_some : BindOk .law_some
  | _, _, _, _, _, _, [_, _], _ => by kernel_rfl
theorem bo_law_pairs : BindOk .law_pairs
  | _, _, _, _, _, _, [_, _], _ => by kernel_rfl
theorem bo_law_tongue : BindOk .law_tongue
  | _, _, _, _, _, _, [_], _ => by kernel_rfl
theorem bo_law_world : BindOk .law_world
  | _, _, _, _, _, _, [_, _, _, _], _ => by kernel_rfl
theorem bo_law_even : BindOk .law_even
  | _, _, _, _, _, _, [_, _], _ => by kernel_rfl
theorem bo_law_shaped : BindOk .law_shaped
  | _, _, _, _, _, _, [_, _, _, _], _ => by kernel_rfl
theorem bo_law_order : BindOk .law_order
  | _, _, _, _, _, _, [_, _], _ => by kernel_rfl
theorem bo_law_turned : BindOk .law_turned
  | _, _, _, _, _, _, [_, _], _ => by kernel_rfl
theorem bo_law_flipped : BindOk .law_flipped
  | _, _, _, _, _, _, [_, _], _ => by kernel_rfl
theorem bo_law_changed : BindOk .law_changed
  | _, _, _, _, _, _, [_, _], _ => by kernel_rfl
theorem bo_law_two : BindOk .law_two
  | _, _, _, _, _, _, [_, _, _], _ => by kernel_rfl
theorem bo_law_text : BindOk .law_text
  | _, _, _, _, _, _, [_], _ => by kernel_rfl
theorem bo_law_letters : BindOk .law_letters
  | _, _, _, _, _, _, [_], _ => by kernel_rfl
theorem bo_law_leaf : BindOk .law_leaf
  | _, _, _, _, _, _, [_, _, _], _ => by kernel_rfl
theorem bo_law_wrapped : BindOk .law_wrapped
  | _, _, _, _, _, _, [_, _, _], _ => by kernel_rfl
theorem bo_law_joined : BindOk .law_joined
  | _, _, _, _, _, _, [_, _], _ => by kernel_rfl
theorem bo_law_grown : BindOk .law_grown
  | _, _, _, _, _, _, [_, _, _], _ => by kernel_rfl
theorem bo_law_enough : BindOk .law_enough
  | _, _, _, _, _, _, [_, _, _], _ => by kernel_rfl
theorem bo_law_true : BindOk .law_true
  | _, _, _, _, _, _, [_, _, _], _ => by kernel_rfl
theorem bo_law_plain : BindOk .law_plain
  | _, _, _, _, _, _, [_], _ => by kernel_rfl
theorem bo_law_closed : BindOk .law_closed
  | _, _, _, _, _, _, [_, _], _ => by kernel_rfl
theorem bo_law_sum : BindOk .law_sum
  | _, _, _, _, _, _, [_, _], _ => by kernel_rfl
theorem bo_law_of_tongue : BindOk .law_of_tongue
  | _, _, _, _, _, _, [_, _], _ => by kernel_rfl
theorem bo_law_alike : BindOk .law_alike
  | _, _, _, _, _, _, [_, _, _, _], _ => by kernel_rfl
theorem bo_law_about : BindOk .law_about
  | _, _, _, _, _, _, [_, _, _], _ => by kernel_rfl
theorem bo_law : BindOk .law
  | _, _, _, _, _, _, [_], _ => by kernel_rfl
theorem bo_desk_init : BindOk .desk_init
  | _, _, _, _, _, _, [_], _ => by kernel_rfl
theorem bo_desk_world_of : BindOk .desk_world_of
  | _, _, _, _, _, _, [_, _], _ => by kernel_rfl
theorem bo_desk_say : BindOk .desk_say
  | _, _, _, _, _, _, [_, _], _ => by kernel_rfl
theorem bo_desk_about_one : BindOk .desk_about_one
  | _, _, _, _, _, _, [_, _, _], _ => by kernel_rfl
theorem bo_desk_about_two : BindOk .desk_about_two
  | _, _, _, _, _, _, [_, _, _, _], _ => by kernel_rfl
theorem bindOk : ∀ f : Fn, f ≠ .holds → BindOk f
  | .is_whole, _ => bo_is_whole
  | .count_of, _ => bo_count_of
  | .is_name, _ => bo_is_name
  | .is_point, _ => bo_is_point
  | .is_pair, _ => bo_is_pair
  | .rises, _ => bo_rises
  | .are_named, _ => bo_are_named
  | .is_world, _ => bo_is_world
  | .tongue_of, _ => bo_tongue_of
  | .what_has, _ => bo_what_has
  | .bears, _ => bo_bears
  | .leads, _ => bo_leads
  | .check_tongue, _ => bo_check_tongue
  | .check_small, _ => bo_check_small
  | .check_two, _ => bo_check_two
  | .beside, _ => bo_beside
  | .same_marks, _ => bo_same_marks
  | .agree, _ => bo_agree
  | .joins, _ => bo_joins
  | .with_pair, _ => bo_with_pair
  | .further, _ => bo_further
  | .pairings, _ => bo_pairings
  | .is_saved, _ => bo_is_saved
  | .is_answered, _ => bo_is_answered
  | .next_layer, _ => bo_next_layer
  | .layers, _ => bo_layers
  | .is_letter, _ => bo_is_letter
  | .parts_of, _ => bo_parts_of
  | .letters_here, _ => bo_letters_here
  | .depth_of, _ => bo_depth_of
  | .free_of, _ => bo_free_of
  | .strange, _ => bo_strange
  | .with_letter, _ => bo_with_letter
  | .joined, _ => bo_joined
  | .often, _ => bo_often
  | .for_each, _ => bo_for_each
  | .true_at, _ => bo_true_at
  | .holds, h => absurd rfl h
  | .show_saying, _ => bo_show_saying
  | .word_end, _ => bo_word_end
  | .past, _ => bo_past
  | .letter_at, _ => bo_letter_at
  | .read_named, _ => bo_read_named
  | .read_many, _ => bo_read_many
  | .read_joined, _ => bo_read_joined
  | .read_at, _ => bo_read_at
  | .read_saying, _ => bo_read_saying
  | .show_world, _ => bo_show_world
  | .read_point, _ => bo_read_point
  | .read_pair, _ => bo_read_pair
  | .read_part, _ => bo_read_part
  | .read_world, _ => bo_read_world
  | .fits_form, _ => bo_fits_form
  | .law_cell, _ => bo_law_cell
  | .law_names, _ => bo_law_names
  | .law_some, _ => bo_law_some
  | .law_pairs, _ => bo_law_pairs
  | .law_tongue, _ => bo_law_tongue
  | .law_world, _ => bo_law_world
  | .law_even, _ => bo_law_even
  | .law_shaped, _ => bo_law_shaped
  | .law_order, _ => bo_law_order
  | .law_turned, _ => bo_law_turned
  | .law_flipped, _ => bo_law_flipped
  | .law_changed, _ => bo_law_changed
  | .law_two, _ => bo_law_two
  | .law_text, _ => bo_law_text
  | .law_letters, _ => bo_law_letters
  | .law_leaf, _ => bo_law_leaf
  | .law_wrapped, _ => bo_law_wrapped
  | .law_joined, _ => bo_law_joined
  | .law_grown, _ => bo_law_grown
  | .law_enough, _ => bo_law_enough
  | .law_true, _ => bo_law_true
  | .law_plain, _ => bo_law_plain
  | .law_closed, _ => bo_law_closed
  | .law_sum, _ => bo_law_sum
  | .law_of_tongue, _ => bo_law_of_tongue
  | .law_alike, _ => bo_law_alike
  | .law_about, _ => bo_law_about
  | .law, _ => bo_law
  | .desk_init, _ => bo_desk_init
  | .desk_world_of, _ => bo_desk_world_of
  | .desk_say, _ => bo_desk_say
  | .desk_about_one, _ => bo_desk_about_one
  | .desk_about_two, _ => bo_desk_about_two
theorem bindH (T : Addr) (kV doc pm : Value) (an : Option Addr) (cdv ct : Value) : ∀ (us its : List Value), us.length = 2 → its.length = 1 →
    ∃ k, bindArgs (PySem.W.fnOf (dOf .holds).name (dOf .holds).qual (dOf .holds).params (dOf .holds).body (dOf .holds).scope (.ref T) kV doc pm an cdv ct) ⟨us, []⟩ = seqItems? (.ref T) >>= k ∧ k (some its.toArray) = pure ((psF .holds).zip (us ++ its.drop 0))
  | [_, _], [_], _, _ => ⟨_, rfl, rfl⟩
theorem bindH3 (T : Addr) (kV doc pm : Value) (an : Option Addr) (cdv ct : Value) : ∀ (us its : List Value), us.length = 3 → its.length = 1 →
    ∃ k, bindArgs (PySem.W.fnOf (dOf .holds).name (dOf .holds).qual (dOf .holds).params (dOf .holds).body (dOf .holds).scope (.ref T) kV doc pm an cdv ct) ⟨us, []⟩ = seqItems? (.ref T) >>= k ∧ k (some its.toArray) = pure ((psF .holds).zip (us ++ its.drop 1))
  | [_, _, _], [_], _, _ => ⟨_, rfl, rfl⟩
/-- a def's scope, looked at -/
def scC (f : Fn) : Bool := decide ((dOf f).scope.kind = .function) && !(dOf f).scope.isCoroutine && !(dOf f).scope.isGenerator && decide ((nm f).Nodup) && decide ((nm f).length = nsl f) && decide (np f ≤ nsl f) &&
  (psF f).all (fun x => match (dOf f).scope.names.lookup x with | some .local => true | some .cell => true | _ => false) && (dOf f).scope.names.all (fun y => match y.2 with | .free => false | _ => true)
theorem scC_all : allFn.all scC = true := by decide +kernel
theorem allFn_mem (f : Fn) : f ∈ allFn := by cases f <;> decide
theorem scC_of (f : Fn) : scC f = true := List.all_eq_true.mp scC_all f (allFn_mem f)
theorem scF (f : Fn) : FnScope (nm f) (psF f) (dOf f).scope := by
  have h := scC_of f
  unfold scC at h
  simp only [Bool.and_eq_true, decide_eq_true_eq, Bool.not_eq_true'] at h
  obtain ⟨⟨⟨⟨⟨⟨⟨h1, h2⟩, h3⟩, h4⟩, h5⟩, h6⟩, h7⟩, h8⟩ := h
  refine ⟨h1, h2, h3, h4, ?_, fun x hx => ?_, fun y hy e => ?_⟩
  · unfold psF
    rw [List.length_take, Nat.min_eq_left (by omega)]
  · have h9 := List.all_eq_true.mp h7 x hx
    split at h9
    · exact .inl ‹_›
    · exact .inr ‹_›
    · cases h9
  · have h9 := List.all_eq_true.mp h8 y hy
    rw [e] at h9
    cases h9
theorem nm_len (f : Fn) : (nm f).length = nsl f ∧ np f ≤ nsl f ∧ (psF f).length = np f := by
  have h := scC_of f
  unfold scC at h
  simp only [Bool.and_eq_true, decide_eq_true_eq, Bool.not_eq_true'] at h
  obtain ⟨⟨⟨⟨⟨⟨⟨h1, h2⟩, h3⟩, h4⟩, h5⟩, h6⟩, h7⟩, h8⟩ := h
  refine ⟨h5, h6, ?_⟩
  unfold psF
  rw [List.length_take, Nat.min_eq_left (by omega)]
end Pk
end
section
-- PkFns
set_option linter.all false
set_option maxRecDepth 100000
/-! Each def keeps its promise, however deep the calls. -/
namespace Pk
open PySem PySem.Spec PyProof.Rows L2
def resF (f : Fn) : Bool := chkSs (nm f) (dOf f).scope (body f) (dOf f).body
theorem resF_all : allFn.all resF = true := by decide +kernel
theorem resF_of (f : Fn) : resF f = true := List.all_eq_true.mp resF_all f (allFn_mem f)
structure Ft (G : Gx) : Prop where
  fd : ∀ f, ∃ fd, FunD G.K (dOf f).name (dOf f).qual (dOf f).params (dOf f).body (dOf f).scope ((dOf f).dvs G.K) ((dOf f).kws G.K) (G.fa f) fd
  W : Gw G G.K G.mg G.w
theorem dvs_nil (K : PySem.W.Frag) (f : Fn) (h : f ≠ .holds) : (dOf f).dvs K = [] := by
  cases f <;> first | rfl | exact absurd rfl h
theorem dvs_one (K : PySem.W.Frag) : (dOf .holds).dvs K = [.non] := rfl
section
variable {G : Gx} {base : Heap}
theorem outD_some {o : Option Out} {d : D} {s : Sh} (h : outD o = some (d, s)) : (o = some (.rt d s)) ∨ ∃ ρ, o = some (.nx ρ s) ∧ d = .non := by
  unfold outD at h
  split at h
  · cases h; exact .inl rfl
  · cases h; exact .inr ⟨_, rfl, rfl⟩
  · cases h
theorem callN_some {k : Nat} {f : Fn} {ds : List D} {s s' : Sh} {d : D} (h : callN (k + 1) f ds s = some (d, s')) : ds.length = np f ∧ outD (exSs (callN k) (body f) (startE f ds) s) = some (d, s') := by
  unfold callN at h
  split at h
  · exact ⟨‹_›, h⟩
  · cases h
theorem spec_len {k : Nat} {f : Fn} {vs : List V} {H : Hp} {Q : VK} {E : XK} (h : spec G (callN k) f vs H Q E) : vs.length = (psF f).length := by
  obtain ⟨T, ds, s, d, s', _, _, r, e, _⟩ := h
  cases k with
  | zero => cases e
  | succ k => rw [(nm_len f).2.2, ← (callN_some e).1, r.len]
/-- slots at the start -/
theorem start_now {f : Fn} {T : Addr → Prop} {H : Hp} {s : Sh} {ds : List D} {vs : List V} (dom : Dom T H) (sh : Shf G T T H s) (r : RepL G (wo H T) ds vs) (hl : ds.length = np f) : Now G T (startE f ds) (start (nm f) vs) H s ∧ ∀ a, ¬ Ow (startE f ds) (start (nm f) vs) a := by
  have hv : vs.length = np f := by rw [← r.len]; exact hl
  obtain ⟨h1, h2, _⟩ := nm_len f
  have no : ∀ (i : Nat) (d : D), (startE f ds)[i]? ≠ some (.o d) := fun i d e => by
    unfold startE at e
    by_cases hi : i < ds.length
    · rw [List.getElem?_append_left (by simpa using hi), List.getElem?_map] at e
      obtain ⟨x, _, z⟩ := Option.map_eq_some_iff.mp e
      cases z
    · rw [List.getElem?_append_right (by simpa using hi), List.getElem?_replicate] at e
      split at e <;> cases e
  have now : ∀ a, ¬ Ow (startE f ds) (start (nm f) vs) a := fun a ⟨i, d, e, _⟩ => no i d e
  have eT : Tw T (startE f ds) (start (nm f) vs) = T := funext fun a => propext ⟨fun z => z.elim id fun z => absurd z (now a), .inl⟩
  refine ⟨⟨⟨?_, fun i d e => ?_, fun i d e => absurd e (no i d), fun i j d d' a e _ _ _ => absurd e (no i d), fun a h => absurd h (now a), dom⟩, by rw [eT]; exact sh⟩, now⟩
  · unfold L2.start startE
    simp only [List.length_append, List.length_map, List.length_replicate]
    omega
  · rw [eT]
    unfold startE at e
    by_cases hi : i < ds.length
    · rw [List.getElem?_append_left (by simpa using hi), List.getElem?_map] at e
      obtain ⟨x, hx, z⟩ := Option.map_eq_some_iff.mp e
      cases z
      obtain ⟨v, h3, h4⟩ := r.get hx
      refine ⟨v, ?_, h4⟩
      unfold L2.start
      rw [List.getElem?_append_left (by rw [List.length_map, hv, ← hl]; exact hi), List.getElem?_map, h3]
      rfl
    · rw [List.getElem?_append_right (by simpa using hi), List.getElem?_replicate] at e
      split at e <;> cases e
/-- a def's body, run from its arguments -/
theorem start_run {k : Nat} {f : Fn} {vs : List V} {H : Hp} {Q : VK} {E : XK} (h : spec G (callN (k + 1)) f vs H Q E) : wdSs G (callN k) (body f) { nx := fun _ H' => Q .non H', rt := Q } (start (nm f) vs) H := by
  obtain ⟨T, ds, s, d, s', dom, sh, r, e, q⟩ := h
  obtain ⟨hl, e⟩ := callN_some e
  obtain ⟨n, no⟩ := start_now (f := f) dom sh r hl
  rcases outD_some e with e2 | ⟨ρ', e2, rfl⟩
  · refine ⟨T, _, s, _, n, e2, fun v H' f sh' r' => q v H' (fun a o hx e => f a o hx (no a) e) sh' r'⟩
  · refine ⟨T, _, s, _, n, e2, fun σ' H' n' p => q .non H' (fun a o hx e => p.fr a o hx (no a) e) (n'.sh.less (fun _ h => h) fun a h => .inl h) rfl⟩
theorem room_hu {k : Nat} {A : Around} (r : Room k A) : A.units + 65 < cLine := by have := r.un; omega
def HoldAll (G : Gx) (base : Heap) (k : Nat) : Prop := ∀ f, Held G.P G.w G.K G.mg base k (G.fa f) (spec G (callN k) f) ∧ (dfl f ≠ [] → HeldD G.P G.w G.K G.mg base k (G.fa f) (spec G (callN k) f))
theorem binds_of (F : Ft G) {f : Fn} {fd : FuncData} (hF : FunD G.K (dOf f).name (dOf f).qual (dOf f).params (dOf f).body (dOf f).scope ((dOf f).dvs G.K) ((dOf f).kws G.K) (G.fa f) fd) : Binds G.K fd (psF f) [] ∧ (dfl f ≠ [] → Binds G.K fd (psF f) [.none]) := by
  by_cases h : f = .holds
  · subst h
    rw [dvs_one] at hF
    refine ⟨?_, fun _ => ?_⟩
    · obtain ⟨ds, h1, h2⟩ := hF.binds1 (ps := psF .holds) 3 1 (by simp) rfl fun T kV doc pm an cdv ct us its h1 h2 => bindH3 T kV doc pm an cdv ct us its h1 h2
      cases h1
      exact h2
    · obtain ⟨ds, h1, h2⟩ := hF.binds1 (ps := psF .holds) 2 0 (by simp) rfl fun T kV doc pm an cdv ct us its h1 h2 => bindH T kV doc pm an cdv ct us its h1 h2
      cases h1 with
      | cons r t =>
        cases t
        cases r
        exact h2
  · rw [dvs_nil G.K f h] at hF
    refine ⟨hF.bindsN fun kV doc pm an cdv ct us hl => bindOk f h kV doc pm an cdv ct us (by rw [hl, (nm_len f).2.2]), fun hd => ?_⟩
    cases f <;> first | exact absurd rfl hd | exact absurd rfl h
theorem hold_all (F : Ft G) (R : ∀ k N, Rest G (callN k) k N) : ∀ k, HoldAll G base k
  | 0 => fun f => by
    obtain ⟨fd, hF⟩ := F.fd f
    have nope : ∀ vs H Q E, ¬ spec G (callN 0) f vs H Q E := fun vs H Q E ⟨T, ds, s, d, s', _, _, _, e, _⟩ => by cases e
    have ok : FnOk G.P G.w G.K G.mg base (fun _ _ _ _ _ _ => False) 0 (G.fa f) fd (psF f) (spec G (callN 0) f) := ⟨fun vs H Q E h => absurd h (nope _ _ _ _), fun A outer s H args us vs Q E _ _ _ _ h => absurd h (nope _ _ _ _)⟩
    exact ⟨⟨fd, psF f, ok, hF.kp, (binds_of F hF).1⟩, fun hd => ⟨fd, psF f, ok, hF.kp, (binds_of F hF).2 hd⟩⟩
  | k + 1 => fun f => by
    obtain ⟨fd, hF⟩ := F.fd f
    have ih := hold_all F R k
    have ok : FnOk G.P G.w G.K G.mg base (fun _ _ _ _ _ _ => False) (k + 1) (G.fa f) fd (psF f) (spec G (callN (k + 1)) f) := by
      refine hF.ok (scF f) (fun vs H Q E h => spec_len h) fun cdv A outer s H vs Q E hr h => ⟨wdSs G (callN k) (body f), PSs.nox ?_, start_run h⟩
      have g : Gd G (callN k) k (dOf f).scope (nm f) (cxOf CX0 G.P G.w G.K G.mg base (nm f) (dOf f).qual (dOf f).scope (G.fa f) cdv A outer s H E).nox :=
        ⟨⟨rfl, rfl, rfl, rfl, rfl, room_hu hr⟩, F.W, rfl, (scF f).nd, rfl, rfl, hr, fun f' => (ih f').1, fun f' hd => (ih f').2 hd⟩
      exact sndSs (R k (nm f)) g (fun _ => rfl) (body f) _ (resF_of f)
    exact ⟨⟨fd, psF f, ok, hF.kp, (binds_of F hF).1⟩, fun hd => ⟨fd, psF f, ok, hF.kp, (binds_of F hF).2 hd⟩⟩
end
end Pk
end
section
-- PkFacts
set_option linter.all false
set_option maxRecDepth 100000
/-! What the head says of the written part. -/
namespace Pk
open PySem PySem.Spec PyProof.Rows L2
def gx (P : Program) (w : World) (K : PySem.W.Frag) (mg : PySem.Str → Option Value) : Gx := ⟨P, w, K, mg, fun f => He.fAd K (dOf f).at_, He.ga K "Desk", none⟩
section
variable {P : Program} {w : World} {K : PySem.W.Frag} {mg : PySem.Str → Option Value} {h : Heap}
theorem fa_fnm (X : K.In h) (G : h.Ns mainGlobals mg) (c : He.SaysD faL fnL K) : ∀ f, (fnAt f).2 = none → mg (fnAt f).1 = some (.ref (He.fAd K (dOf f).at_))
  | .is_whole, _ => He.glo_ok X G (c.fact 0 rfl)
  | .count_of, _ => He.glo_ok X G (c.fact 1 rfl)
  | .is_name, _ => He.glo_ok X G (c.fact 2 rfl)
  | .is_point, _ => He.glo_ok X G (c.fact 3 rfl)
  | .is_pair, _ => He.glo_ok X G (c.fact 4 rfl)
  | .rises, _ => He.glo_ok X G (c.fact 5 rfl)
  | .are_named, _ => He.glo_ok X G (c.fact 6 rfl)
  | .is_world, _ => He.glo_ok X G (c.fact 7 rfl)
  | .tongue_of, _ => He.glo_ok X G (c.fact 8 rfl)
  | .what_has, _ => He.glo_ok X G (c.fact 9 rfl)
  | .bears, _ => He.glo_ok X G (c.fact 10 rfl)
  | .leads, _ => He.glo_ok X G (c.fact 11 rfl)
  | .check_tongue, _ => He.glo_ok X G (c.fact 12 rfl)
  | .check_small, _ => He.glo_ok X G (c.fact 13 rfl)
  | .check_two, _ => He.glo_ok X G (c.fact 14 rfl)
  | .beside, _ => He.glo_ok X G (c.fact 15 rfl)
  | .same_marks, _ => He.glo_ok X G (c.fact 16 rfl)
  | .agree, _ => He.glo_ok X G (c.fact 17 rfl)
  | .joins, _ => He.glo_ok X G (c.fact 18 rfl)
  | .with_pair, _ => He.glo_ok X G (c.fact 19 rfl)
  | .further, _ => He.glo_ok X G (c.fact 20 rfl)
  | .pairings, _ => He.glo_ok X G (c.fact 21 rfl)
  | .is_saved, _ => He.glo_ok X G (c.fact 22 rfl)
  | .is_answered, _ => He.glo_ok X G (c.fact 23 rfl)
  | .next_layer, _ => He.glo_ok X G (c.fact 24 rfl)
  | .layers, _ => He.glo_ok X G (c.fact 25 rfl)
  | .is_letter, _ => He.glo_ok X G (c.fact 26 rfl)
  | .parts_of, _ => He.glo_ok X G (c.fact 27 rfl)
  | .letters_here, _ => He.glo_ok X G (c.fact 28 rfl)
  | .depth_of, _ => He.glo_ok X G (c.fact 29 rfl)
  | .free_of, _ => He.glo_ok X G (c.fact 30 rfl)
  | .strange, _ => He.glo_ok X G (c.fact 31 rfl)
  | .with_letter, _ => He.glo_ok X G (c.fact 32 rfl)
  | .joined, _ => He.glo_ok X G (c.fact 33 rfl)
  | .often, _ => He.glo_ok X G (c.fact 34 rfl)
  | .for_each, _ => He.glo_ok X G (c.fact 35 rfl)
  | .true_at, _ => He.glo_ok X G (c.fact 36 rfl)
  | .holds, _ => He.glo_ok X G (c.fact 37 rfl)
  | .show_saying, _ => He.glo_ok X G (c.fact 38 rfl)
  | .word_end, _ => He.glo_ok X G (c.fact 39 rfl)
  | .past, _ => He.glo_ok X G (c.fact 40 rfl)
  | .letter_at, _ => He.glo_ok X G (c.fact 41 rfl)
  | .read_named, _ => He.glo_ok X G (c.fact 42 rfl)
  | .read_many, _ => He.glo_ok X G (c.fact 43 rfl)
  | .read_joined, _ => He.glo_ok X G (c.fact 44 rfl)
  | .read_at, _ => He.glo_ok X G (c.fact 45 rfl)
  | .read_saying, _ => He.glo_ok X G (c.fact 46 rfl)
  | .show_world, _ => He.glo_ok X G (c.fact 47 rfl)
  | .read_point, _ => He.glo_ok X G (c.fact 48 rfl)
  | .read_pair, _ => He.glo_ok X G (c.fact 49 rfl)
  | .read_part, _ => He.glo_ok X G (c.fact 50 rfl)
  | .read_world, _ => He.glo_ok X G (c.fact 51 rfl)
  | .fits_form, _ => He.glo_ok X G (c.fact 52 rfl)
  | .law_cell, _ => He.glo_ok X G (c.fact 53 rfl)
  | .law_names, _ => He.glo_ok X G (c.fact 54 rfl)
  | .law_some, _ => He.glo_ok X G (c.fact 55 rfl)
  | .law_pairs, _ => He.glo_ok X G (c.fact 56 rfl)
  | .law_tongue, _ => He.glo_ok X G (c.fact 57 rfl)
  | .law_world, _ => He.glo_ok X G (c.fact 58 rfl)
  | .law_even, _ => He.glo_ok X G (c.fact 59 rfl)
  | .law_shaped, _ => He.glo_ok X G (c.fact 60 rfl)
  | .law_order, _ => He.glo_ok X G (c.fact 61 rfl)
  | .law_turned, _ => He.glo_ok X G (c.fact 62 rfl)
  | .law_flipped, _ => He.glo_ok X G (c.fact 63 rfl)
  | .law_changed, _ => He.glo_ok X G (c.fact 64 rfl)
  | .law_two, _ => He.glo_ok X G (c.fact 65 rfl)
  | .law_text, _ => He.glo_ok X G (c.fact 66 rfl)
  | .law_letters, _ => He.glo_ok X G (c.fact 67 rfl)
  | .law_leaf, _ => He.glo_ok X G (c.fact 68 rfl)
  | .law_wrapped, _ => He.glo_ok X G (c.fact 69 rfl)
  | .law_joined, _ => He.glo_ok X G (c.fact 70 rfl)
  | .law_grown, _ => He.glo_ok X G (c.fact 71 rfl)
  | .law_enough, _ => He.glo_ok X G (c.fact 72 rfl)
  | .law_true, _ => He.glo_ok X G (c.fact 73 rfl)
  | .law_plain, _ => He.glo_ok X G (c.fact 74 rfl)
  | .law_closed, _ => He.glo_ok X G (c.fact 75 rfl)
  | .law_sum, _ => He.glo_ok X G (c.fact 76 rfl)
  | .law_of_tongue, _ => He.glo_ok X G (c.fact 77 rfl)
  | .law_alike, _ => He.glo_ok X G (c.fact 78 rfl)
  | .law_about, _ => He.glo_ok X G (c.fact 79 rfl)
  | .law, _ => He.glo_ok X G (c.fact 80 rfl)
  | .desk_init, e => by cases e
  | .desk_world_of, e => by cases e
  | .desk_say, e => by cases e
  | .desk_about_one, e => by cases e
  | .desk_about_two, e => by cases e
theorem fa_mth (c : He.SaysD faL fnL K) : ∀ f m, (fnAt f).2 = some m → Meth K (He.ga K "Desk") m (He.fAd K (dOf f).at_) := fun f m e => by
  cases f
  case is_whole => cases e
  case count_of => cases e
  case is_name => cases e
  case is_point => cases e
  case is_pair => cases e
  case rises => cases e
  case are_named => cases e
  case is_world => cases e
  case tongue_of => cases e
  case what_has => cases e
  case bears => cases e
  case leads => cases e
  case check_tongue => cases e
  case check_small => cases e
  case check_two => cases e
  case beside => cases e
  case same_marks => cases e
  case agree => cases e
  case joins => cases e
  case with_pair => cases e
  case further => cases e
  case pairings => cases e
  case is_saved => cases e
  case is_answered => cases e
  case next_layer => cases e
  case layers => cases e
  case is_letter => cases e
  case parts_of => cases e
  case letters_here => cases e
  case depth_of => cases e
  case free_of => cases e
  case strange => cases e
  case with_letter => cases e
  case joined => cases e
  case often => cases e
  case for_each => cases e
  case true_at => cases e
  case holds => cases e
  case show_saying => cases e
  case word_end => cases e
  case past => cases e
  case letter_at => cases e
  case read_named => cases e
  case read_many => cases e
  case read_joined => cases e
  case read_at => cases e
  case read_saying => cases e
  case show_world => cases e
  case read_point => cases e
  case read_pair => cases e
  case read_part => cases e
  case read_world => cases e
  case fits_form => cases e
  case law_cell => cases e
  case law_names => cases e
  case law_some => cases e
  case law_pairs => cases e
  case law_tongue => cases e
  case law_world => cases e
  case law_even => cases e
  case law_shaped => cases e
  case law_order => cases e
  case law_turned => cases e
  case law_flipped => cases e
  case law_changed => cases e
  case law_two => cases e
  case law_text => cases e
  case law_letters => cases e
  case law_leaf => cases e
  case law_wrapped => cases e
  case law_joined => cases e
  case law_grown => cases e
  case law_enough => cases e
  case law_true => cases e
  case law_plain => cases e
  case law_closed => cases e
  case law_sum => cases e
  case law_of_tongue => cases e
  case law_alike => cases e
  case law_about => cases e
  case law => cases e
  case desk_init =>
    cases e
    have M := He.mkr_ok (c.fact 108 (f := .mkr "Desk") rfl)
    obtain ⟨fd, hF⟩ := c.def_ 81 (d := dOf .desk_init) rfl
    exact ⟨M.init, M.fn, hF.kp⟩
  case desk_world_of =>
    cases e
    exact He.meth_ok (c.fact 109 (f := .meth "Desk" "world_of") rfl)
  case desk_say =>
    cases e
    exact He.meth_ok (c.fact 110 (f := .meth "Desk" "say") rfl)
  case desk_about_one =>
    cases e
    exact He.meth_ok (c.fact 111 (f := .meth "Desk" "about_one") rfl)
  case desk_about_two =>
    cases e
    exact He.meth_ok (c.fact 112 (f := .meth "Desk" "about_two") rfl)
theorem fa_bl (X : K.In h) (G : h.Ns mainGlobals mg) (c : He.SaysD faL fnL K) : ∀ x ∈ bnames, mg x = none := fun x hx => by
  simp only [bnames, List.mem_cons, List.not_mem_nil, or_false] at hx
  rcases hx with rfl | rfl | rfl | rfl | rfl | rfl | rfl | rfl | rfl | rfl | rfl | rfl | rfl | rfl | rfl
  · exact He.free_ok X G (c.fact 91 rfl)
  · exact He.free_ok X G (c.fact 86 rfl)
  · exact He.free_ok X G (c.fact 88 rfl)
  · exact He.free_ok X G (c.fact 89 rfl)
  · exact He.free_ok X G (c.fact 90 rfl)
  · exact He.free_ok X G (c.fact 94 rfl)
  · exact He.free_ok X G (c.fact 92 rfl)
  · exact He.free_ok X G (c.fact 97 rfl)
  · exact He.free_ok X G (c.fact 98 rfl)
  · exact He.free_ok X G (c.fact 99 rfl)
  · exact He.free_ok X G (c.fact 95 rfl)
  · exact He.free_ok X G (c.fact 85 rfl)
  · exact He.free_ok X G (c.fact 93 rfl)
  · exact He.free_ok X G (c.fact 96 rfl)
  · exact He.free_ok X G (c.fact 87 rfl)
theorem rep_strs {G : Gx} {H : Hp} : ∀ (l : List PySem.Str), RepL G H (l.map fun z => .str z.cps.toList) (l.map V.str)
  | [] => RepL.nil
  | z :: r => RepL.cons (by unfold Rep; simp) (rep_strs r)
theorem fa_glo (X : K.In h) (G : h.Ns mainGlobals mg) (c : He.SaysD faL fnL K) (e1 : He.tupB K "WORDS" wordsL = true) (e2 : He.tupB K "LONGER" longL = true) : ∀ g, ∃ v u, mg (globStr g) = some u ∧ RelV v u ∧ ∀ H, Rep (gx P w K mg) H (globD g) v
  | .LETTERS => by
    obtain ⟨t, h1⟩ := He.str_ok X G (c.fact 100 (f := .str "LETTERS" "abcdefghijklmnopqrstuvwxyz") rfl)
    exact ⟨.str "abcdefghijklmnopqrstuvwxyz", _, h1, ⟨t, rfl⟩, fun H => rfl⟩
  | .FIGURES_saytexts => by
    obtain ⟨t, h1⟩ := He.str_ok X G (c.fact 103 (f := .str "FIGURES_saytexts" "123456789") rfl)
    exact ⟨.str "123456789", _, h1, ⟨t, rfl⟩, fun H => rfl⟩
  | .FIGURES_worldtexts => by
    obtain ⟨t, h1⟩ := He.str_ok X G (c.fact 104 (f := .str "FIGURES_worldtexts" "0123456789") rfl)
    exact ⟨.str "0123456789", _, h1, ⟨t, rfl⟩, fun H => rfl⟩
  | .FIGURES_desk => by
    obtain ⟨t, h1⟩ := He.str_ok X G (c.fact 105 (f := .str "FIGURES_desk" "0123456789") rfl)
    exact ⟨.str "0123456789", _, h1, ⟨t, rfl⟩, fun H => rfl⟩
  | .SMALL => by
    obtain ⟨t, h1⟩ := He.int_ok X G (c.fact 101 (f := .int "SMALL" 4) rfl)
    exact ⟨.int 4, _, h1, ⟨t, rfl⟩, fun H => rfl⟩
  | .MOST => by
    obtain ⟨t, h1⟩ := He.int_ok X G (c.fact 102 (f := .int "MOST" 8) rfl)
    exact ⟨.int 8, _, h1, ⟨t, rfl⟩, fun H => rfl⟩
  | .WORDS => by
    refine ⟨.ref (He.ga K "WORDS"), _, He.glo_ok X G (c.fact 82 (f := .glo "WORDS") rfl), rfl, fun H => ?_⟩
    have h1 := He.tupB_ok e1 H
    show Rep (gx P w K mg) H (.tup _) _
    unfold Rep
    refine ⟨_, _, rfl, h1, ?_⟩
    exact RepL.cons rfl (RepL.cons rfl (RepL.cons rfl (RepL.cons rfl (RepL.cons rfl (RepL.cons rfl (RepL.cons rfl (RepL.cons rfl (RepL.nil))))))))
  | .LONGER => by
    refine ⟨.ref (He.ga K "LONGER"), _, He.glo_ok X G (c.fact 84 (f := .glo "LONGER") rfl), rfl, fun H => ?_⟩
    have h1 := He.tupB_ok e2 H
    show Rep (gx P w K mg) H (.tup _) _
    unfold Rep
    refine ⟨_, _, rfl, h1, ?_⟩
    exact RepL.cons rfl (RepL.cons rfl (RepL.nil))
theorem forms_in : ∀ (k v : List Nat), lookS k formsD = some v → ∃ q ∈ formsL, q.1 = ⟨k.toArray⟩ ∧ q.2.v K = .str ⟨v.toArray⟩ := fun k v e => by
  have key : ∀ p ∈ formsD, ∃ q ∈ formsL, q.1 = ⟨p.1.toArray⟩ ∧ q.2.v K = .str ⟨p.2.toArray⟩ := by
    intro p hp
    simp only [formsD, List.mem_cons, List.not_mem_nil, or_false] at hp
    rcases hp with rfl | rfl | rfl | rfl | rfl | rfl | rfl | rfl | rfl | rfl
    · exact ⟨_, List.mem_of_getElem? (i := 0) rfl, rfl, rfl⟩
    · exact ⟨_, List.mem_of_getElem? (i := 1) rfl, rfl, rfl⟩
    · exact ⟨_, List.mem_of_getElem? (i := 2) rfl, rfl, rfl⟩
    · exact ⟨_, List.mem_of_getElem? (i := 3) rfl, rfl, rfl⟩
    · exact ⟨_, List.mem_of_getElem? (i := 4) rfl, rfl, rfl⟩
    · exact ⟨_, List.mem_of_getElem? (i := 5) rfl, rfl, rfl⟩
    · exact ⟨_, List.mem_of_getElem? (i := 6) rfl, rfl, rfl⟩
    · exact ⟨_, List.mem_of_getElem? (i := 7) rfl, rfl, rfl⟩
    · exact ⟨_, List.mem_of_getElem? (i := 8) rfl, rfl, rfl⟩
    · exact ⟨_, List.mem_of_getElem? (i := 9) rfl, rfl, rfl⟩
  have mem : ∀ (l : List (List Nat × List Nat)), lookS k l = some v → (k, v) ∈ l := by
    intro l
    induction l with
    | nil => intro e; cases e
    | cons p r ih =>
      intro e
      obtain ⟨x, u⟩ := p
      unfold lookS at e
      split at e
      · rename_i h
        cases e
        rw [h]
        exact List.mem_cons_self
      · exact List.mem_cons_of_mem _ (ih e)
  exact key _ (mem _ e)
theorem ft_of (X : K.In h) (G : h.Ns mainGlobals mg) (c : He.SaysT faL fnL tsL w K) (ex : exB K = true) : Ft (gx P w K mg) := by
  have hx := ex
  unfold exB at hx
  simp only [Bool.and_eq_true] at hx
  obtain ⟨e1, e2, e3⟩ := hx
  obtain ⟨es, n, D⟩ := c.tab 0
  have cd := c.d
  refine ⟨fun f => ?_, fa_glo X G cd e1 e2, fa_fnm X G cd, fa_bl X G cd, ⟨_, es, n, He.glo_ok X G (cd.fact 83 (f := .glo "FORMS") rfl), D, fun k v e => ?_⟩, He.cls_ok (cd.fact 106 (f := .cls "Desk") rfl), He.noat_ok (cd.fact 107 (f := .noat "Desk" "shelf") rfl), fa_mth cd⟩
  · have hm : dOf f ∈ fnL := by
      have e : fnL = allFn.map dOf := rfl
      rw [e]
      exact List.mem_map_of_mem (allFn_mem f)
    obtain ⟨i, hi⟩ := List.getElem?_of_mem hm
    exact cd.def_ i hi
  · obtain ⟨q, hq, h1, h2⟩ := forms_in (K := K) k v e
    obtain ⟨u, h3, h4⟩ := He.valsB_ok e3 hq
    rw [h1] at h3
    rw [h2] at h4
    exact ⟨u, h3, h4⟩
theorem desk_glo (X : K.In h) (G : h.Ns mainGlobals mg) (c : He.SaysD faL fnL K) : mg "Desk" = some (.ref (He.ga K "Desk")) := He.glo_ok X G (c.fact 81 (f := .glo "Desk") rfl)
theorem mk_of_desk (c : He.SaysD faL fnL K) : Mk K (He.ga K "Desk") (He.fAd K (dOf .desk_init).at_) := He.mkr_ok (c.fact 108 (f := .mkr "Desk") rfl)
end
end Pk
end
section
-- PkLaw
set_option linter.all false
set_option maxRecDepth 100000
/-! The law's def. -/
namespace Pk
open PySem PySem.Spec PyProof.Rows L2
/-! ### a desk is made -/
def spInit (C : Addr) : Sp := fun vs H Q _ => ∃ x dx, vs = [.ref x] ∧ H x = some (.ins C dx []) ∧ ∀ d0, H d0 = none → Q .non (upd (upd H d0 (.dK [])) x (.ins C dx [("shelf", .ref d0)]))
def initC : Bool := match (dOf .desk_init).body with
  | [.Assign [.Attribute (.Name x _) m _] (.Dict [] [] _) _] => vr (dOf .desk_init).scope (nm .desk_init) 0 x && decide (m = "shelf")
  | _ => false
theorem initC_ok : initC = true := by decide +kernel
section
variable {G : Gx} {base : Heap}
theorem init_ok (F : Ft G) : ∃ fd, FnOk G.P G.w G.K G.mg base CX0 1 (G.fa .desk_init) fd (psF .desk_init) (spInit G.C) ∧ Binds G.K fd (psF .desk_init) [] := by
  obtain ⟨fd, hF⟩ := F.fd .desk_init
  refine ⟨fd, hF.ok (scF .desk_init) (fun vs H Q E h => ?_) (fun cdv A outer s H vs Q E hr h => ?_), (binds_of F hF).1⟩
  · obtain ⟨x, dx, rfl, _⟩ := h
    rfl
  · have hc := initC_ok
    unfold initC at hc
    split at hc
    · rename_i x p m apos dpos pos hb
      simp only [Bool.and_eq_true, decide_eq_true_eq] at hc
      obtain ⟨h1, rfl⟩ := hc
      obtain ⟨a, dx, rfl, ha, q⟩ := h
      rw [hb]
      have hv : PE (cxOf CX0 G.P G.w G.K G.mg base (nm .desk_init) (dOf .desk_init).qual (dOf .desk_init).scope (G.fa .desk_init) cdv A outer s H E).nox (.Name x p) (tVar 0) := by
        unfold vr at h1
        simp only [Bool.and_eq_true, decide_eq_true_eq, Bool.not_eq_true'] at h1
        obtain ⟨⟨⟨h1, h2⟩, h3⟩, h4⟩ := h1
        refine pe_var h1 ?_ h3 h4
        show Vis (dOf .desk_init).scope x
        unfold Vis
        split at h2 <;> simp_all
      refine ⟨_, PSs.nox (pss_one (ps_fld hv pe_dnewK rfl)), fun d0 hd => ⟨.ref a, rfl, a, G.C, dx, [], rfl, ?_, F.W.cls, F.W.sh, by decide, ?_⟩⟩
      · rw [upd_ne (ne_of_none ha hd)]
        exact ha
      · exact q d0 hd
    · cases hc
/-! ### the desk is there from now on -/
def withDk (G : Gx) (x : Addr × Addr × Addr) : Gx := { G with dk := some x }
theorem PrAt.dk {x : Addr × Addr × Addr} {H : Hp} {v : V} {p : Int × Int} (h : PrAt G H v p) : PrAt (withDk G x) H v p := h
theorem PrL.dk {x : Addr × Addr × Addr} {H : Hp} : ∀ {vs : List V} {k : List (Int × Int)}, PrL G H vs k → PrL (withDk G x) H vs k
  | [], _, h => h
  | _ :: _, _, h => let ⟨p, r, h1, h2, h3⟩ := h; ⟨p, r, h1, h2.dk, PrL.dk h3⟩
theorem PrsAt.dk {x : Addr × Addr × Addr} {H : Hp} {b : Addr} {k : List (Int × Int)} (h : PrsAt G H b k) : PrsAt (withDk G x) H b k := let ⟨vs, h1, h2⟩ := h; ⟨vs, h1, h2.dk⟩
mutual
theorem Rep.dk {x : Addr × Addr × Addr} (hd : G.dk = none) {H : Hp} : ∀ (d : D) {v : V}, Rep G H d v → Rep (withDk G x) H d v
  | .non, _, h => h
  | .bl _, _, h => h
  | .int _, _, h => h
  | .str _, _, h => h
  | .tup l, _, h => by
    unfold Rep at h ⊢
    obtain ⟨a, vs, h1, h2, h3⟩ := h
    exact ⟨a, vs, h1, h2, RepL.dk hd l h3⟩
  | .lst l, _, h => by
    unfold Rep at h ⊢
    obtain ⟨a, vs, h1, h2, h3⟩ := h
    exact ⟨a, vs, h1, h2, RepL.dk hd l h3⟩
  | .scr l, _, h => h
  | .dic l, _, h => h
  | .lev ks, _, h => by
    unfold Rep at h ⊢
    obtain ⟨a, xs, h1, h2, h3, h4⟩ := h
    exact ⟨a, xs, h1, h2, h3, fun p hp => (h4 p hp).dk⟩
  | .fn f, _, h => h
  | .desk, _, h => by
    unfold Rep at h
    obtain ⟨y, h1, _⟩ := h
    rw [hd] at h1
    cases h1
theorem RepL.dk {x : Addr × Addr × Addr} (hd : G.dk = none) {H : Hp} : ∀ (l : List D) {vs : List V}, RepL G H l vs → RepL (withDk G x) H l vs
  | [], _, h => h
  | d :: r, _, h => by
    unfold RepL at h ⊢
    obtain ⟨v, ws, h1, h2, h3⟩ := h
    exact ⟨v, ws, h1, Rep.dk hd d h2, RepL.dk hd r h3⟩
end
theorem OwnRep.dk {x : Addr × Addr × Addr} (hd : G.dk = none) {H Hw : Hp} {a : Addr} {d : D} (h : OwnRep G H Hw a d) : OwnRep (withDk G x) H Hw a d := by
  cases d with
  | lst l =>
    obtain ⟨vs, e1, e2⟩ := h
    exact ⟨vs, e1, RepL.dk hd l e2⟩
  | lev ks =>
    obtain ⟨xs, e1, e2, e3⟩ := h
    exact ⟨xs, e1, e2, fun p hp => (e3 p hp).dk⟩
  | _ => exact h
theorem Ft.dk (F : Ft G) (hd : G.dk = none) (x : Addr × Addr × Addr) : Ft (withDk G x) :=
  ⟨F.fd, fun g => let ⟨v, u, h1, h2, h3⟩ := F.W.glo g; ⟨v, u, h1, h2, fun H => Rep.dk hd _ (h3 H)⟩, F.W.fnm, F.W.bl, F.W.forms, F.W.cls, F.W.sh, F.W.mth⟩
/-- behind Desk() -/
theorem desk_now {ρ : En} {σ : L2.St} {H H3 : Hp} {i : Nat} {a dx d0 : Addr} (hd : G.dk = none) (n : Now G (fun _ => False) ρ σ H []) (e : ∀ b o, H b = some o → H3 b = some o) (ha : H a = none) (h0 : H d0 = none) (e1 : H3 a = some (.ins G.C dx [("shelf", .ref d0)])) (e2 : H3 d0 = some (.dK [])) (hi : i < ρ.length) :
    Now (withDk G (a, dx, d0)) (fun b => b = d0) (ρ.set i (.p .desk)) (σ.set i (some (.ref a))) H3 [] := by
  have sub : ∀ b, Ow (ρ.set i (.p .desk)) (σ.set i (some (.ref a))) b → Ow ρ σ b := fun b h => h.sub fun d z => by cases z
  have own : ∀ b, Ow ρ σ b → H b ≠ none := fun b ⟨j, d, h1, h2⟩ => by
    obtain ⟨c, h3, h4⟩ := n.env.own j d h1
    rw [h2] at h3
    cases h3
    exact h4.there
  have w : Same (wo H (Tw (fun _ => False) ρ σ)) (wo H3 (Tw (fun b => b = d0) (ρ.set i (.p .desk)) (σ.set i (some (.ref a))))) := fun b o h => by
    obtain ⟨h1, h2⟩ := wo_some.mp h
    refine wo_some.mpr ⟨fun z => ?_, e b o h2⟩
    rcases z with z | z
    · rw [z, h0] at h2
      cases h2
    · exact h1 (.inr (sub b z))
  refine ⟨⟨by rw [List.length_set, List.length_set]; exact n.env.len, fun j d h1 => ?_, fun j d h1 => ?_, fun j j' d d' b h1 h2 h3 h4 => ?_, fun b hb z => own b (sub b hb) (by rw [z]; exact h0), fun b hb z => ?_⟩, ?_⟩
  · rcases getSet h1 with ⟨rfl, _, z⟩ | ⟨hj, h1⟩
    · cases z
      exact ⟨_, setGet _ (by rw [n.env.len]; exact hi), ⟨_, rfl, rfl⟩⟩
    · obtain ⟨v, h2, h3⟩ := n.env.pur j d h1
      exact ⟨v, by rw [List.getElem?_set_ne (Ne.symm hj)]; exact h2, Rep.dk hd d (Rep.mono w d h3)⟩
  · rcases getSet h1 with ⟨_, _, z⟩ | ⟨hj, h1⟩
    · cases z
    · obtain ⟨b, h2, h3⟩ := n.env.own j d h1
      exact ⟨b, by rw [List.getElem?_set_ne (Ne.symm hj)]; exact h2, OwnRep.dk hd (h3.up (eq_of_some h3.there fun o q => e b o q) w)⟩
  · rcases getSet h1 with ⟨_, _, z⟩ | ⟨hj, h1⟩
    · cases z
    rcases getSet h2 with ⟨_, _, z⟩ | ⟨hj', h2⟩
    · cases z
    rw [List.getElem?_set_ne (Ne.symm hj)] at h3
    rw [List.getElem?_set_ne (Ne.symm hj')] at h4
    exact n.env.inj j j' d d' b h1 h2 h3 h4
  · have hb : b = d0 := hb
    rw [hb, e2] at z
    cases z
  · show Shf _ _ _ _ _
    unfold Shf
    exact ⟨rfl, e1, [], e2, rfl⟩
/-! ### the law -/
def spLaw (G : Gx) : Sp := fun vs H Q _ => ∃ (a : Addr) (ns : List Int), vs = [.ref a] ∧ ns.length ≤ 63 ∧ SqL G.K H a (ns.map V.int) ∧ ∀ H', Q (.bl true) H'
/-- what the two parts of the law's def come to -/
def LawD (k : Nat) (ns : List Int) : Prop := ∃ ρ1 s, 3 < ρ1.length ∧ exSs (callN k) b_law0 (startE .law [.scr ns]) [] = some (.nx ρ1 []) ∧ exSs (callN k) b_law1 (ρ1.set 3 (.p .desk)) [] = some (.rt (.bl true) s)
def lawC : Bool := match (dOf .law).body with
  | A :: B :: .Assign [.Name x _] (.Call (.Name y _) [] [] _) _ :: R => chkSs (nm .law) (dOf .law).scope b_law0 [A, B] && decide ((nm .law)[3]? = some x) && okB (dOf .law).scope x && glC (dOf .law).scope y && decide (y = "Desk") && chkSs (nm .law) (dOf .law).scope b_law1 R
  | _ => false
theorem lawC_ok : lawC = true := by decide +kernel
theorem pss_two {cl : Cl} {k : Nat} {N : List PySem.Str} {sc : Scope} {X : Cx} (R : Rest G cl k N) (g : Gd G cl k sc N X) (hf : ∀ x, X.fn x = true) {m0 m1 : MS} {A B : Stmt} {T : List Stmt} {u : TS} (h0 : chkS N sc m0 A = true) (h1 : chkS N sc m1 B = true) (hu : PSs X T u) :
    PSs X (A :: B :: T) (fun E σ H => wdSs G cl (.cons m0 (.cons m1 .nil)) { E with nx := u E } σ H) := by
  refine PSs.imp (pss_cons (sndS R g hf m0 A h0) (pss_cons (sndS R g hf m1 B h1) hu)) fun E σ H ⟨S, ρ, s, o, n, e, q⟩ => ?_
  simp only [exSs] at e
  split at e
  · rename_i ρ1 s1 e1
    refine ⟨S, ρ, s, _, n, e1, fun σ' H' n' p' => ?_⟩
    have q' := q.on n' p'
    split at e
    · rename_i ρ2 s2 e2
      cases e
      exact ⟨S, ρ1, s1, _, n', e2, q'⟩
    · exact ⟨S, ρ1, s1, o, n', e, by
        cases o with
        | nx ρ2 s2 => exact q'
        | rt d s2 => exact q'⟩
  · rename_i hne
    refine ⟨S, ρ, s, o, n, e, ?_⟩
    cases o with
    | nx ρ1 s1 => exact absurd e (hne ρ1 s1)
    | rt d s1 => exact q
theorem law_bind {fd : FuncData} (hF : FunD G.K (dOf .law).name (dOf .law).qual (dOf .law).params (dOf .law).body (dOf .law).scope ((dOf .law).dvs G.K) ((dOf .law).kws G.K) (G.fa .law) fd) (s : Shared) (u : Value) : BindsTo s fd ⟨[u], []⟩ ((psF .law).zip [u]) := by
  have hF' := hF
  rw [dvs_nil G.K .law (by decide)] at hF'
  exact hF'.bindsA (ps := psF .law) (fun kV doc pm an cdv ct us hl => bindOk .law (by decide) kV doc pm an cdv ct us (by rw [hl, (nm_len .law).2.2])) s [u] rfl
theorem law_ok (hd : G.dk = none) (F : Ft G) (M : Mk G.K G.C (G.fa .desk_init)) (hD : G.mg "Desk" = some (.ref G.C)) (R : ∀ G k N, Rest G (callN k) k N) (k : Nat) (pure : ∀ ns : List Int, ns.length ≤ 63 → LawD (k + 2) ns) {fd : FuncData}
    (hF : FunD G.K (dOf .law).name (dOf .law).qual (dOf .law).params (dOf .law).body (dOf .law).scope ((dOf .law).dvs G.K) ((dOf .law).kws G.K) (G.fa .law) fd) : FnOk G.P G.w G.K G.mg base CX0 (k + 3) (G.fa .law) fd (psF .law) (spLaw G) := by
  refine hF.ok (scF .law) (fun vs H Q E h => ?_) (fun cdv A outer s H vs Q E hr h => ?_)
  · obtain ⟨a, ns, rfl, _⟩ := h
    rfl
  · have hc := lawC_ok
    unfold lawC at hc
    split at hc
    · rename_i A1 B1 x p1 y p2 q1 q2 R1 hb
      simp only [Bool.and_eq_true, decide_eq_true_eq] at hc
      obtain ⟨⟨⟨⟨⟨c1, c2⟩, c3⟩, c4⟩, rfl⟩, c6⟩ := hc
      obtain ⟨a, ns, rfl, hn, hS, hQ⟩ := h
      obtain ⟨ρ1, sh, hlen, ex0, ex1⟩ := pure ns hn
      rw [hb]
      have ih := hold_all (base := base) F (R G) (k + 2)
      generalize hX : (cxOf CX0 G.P G.w G.K G.mg base (nm .law) (dOf .law).qual (dOf .law).scope (G.fa .law) cdv A outer s H E).nox = X at *
      have g : Gd G (callN (k + 2)) (k + 2) (dOf .law).scope (nm .law) X := by
        rw [← hX]
        exact ⟨⟨rfl, rfl, rfl, rfl, rfl, room_hu hr⟩, F.W, rfl, (scF .law).nd, rfl, rfl, hr, fun f' => (ih f').1, fun f' hd => (ih f').2 hd⟩
      have hf : ∀ x, X.fn x = true := fun x => by
        rw [← hX]
        rfl
      obtain ⟨fi, oki, bi⟩ := init_ok (base := base) F
      have hm : PE X (.Call (.Name "Desk" p2) [] [] q1) (tMake G.C (spInit G.C) [] E0 tNil) := by
        have r1 : Room (k + 2) X.A := g.room
        obtain ⟨o1, o2⟩ := gl_of g c4
        rw [← hX] at r1 o1 ⊢
        exact pe_make0 (k := k + 1) M (oki.mono (by omega)) r1 o1 hD bi .nil (fun _ _ _ _ _ _ _ z => z.elim) o2
      obtain ⟨o1, o2⟩ := okB_ok g hf x c3
      -- the rest, whatever the desk
      have hrest : ∀ z, PSs X R1 (wdSs (withDk G z) (callN (k + 2)) b_law1) := fun z => by
        have F2 := F.dk hd z
        have ih2 := hold_all (G := withDk G z) (base := base) F2 (R (withDk G z)) (k + 2)
        have g2 : Gd (withDk G z) (callN (k + 2)) (k + 2) (dOf .law).scope (nm .law) X := by
          rw [← hX]
          exact ⟨⟨rfl, rfl, rfl, rfl, rfl, room_hu hr⟩, F2.W, rfl, (scF .law).nd, rfl, rfl, hr, fun f' => (ih2 f').1, fun f' hd => (ih2 f').2 hd⟩
        exact sndSs (R (withDk G z) (k + 2) (nm .law)) g2 hf b_law1 R1 c6
      have hall : PSs X R1 (fun E σ H => ∃ z, wdSs (withDk G z) (callN (k + 2)) b_law1 E σ H) := ⟨fun pins s σ H D I ⟨z, q⟩ => (hrest z).run pins s σ H D I q⟩
      have hdesk := pss_cons (ps_set (i := 3) (pos' := p1) (pos := q2) (by rw [g.nm]; exact (scF .law).nd) (by rw [g.nm]; exact c2) o1 hm rfl o2) hall
      simp only [b_law0, chkSs, Bool.and_eq_true] at c1
      have hwhole := pss_two (R G (k + 2) (nm .law)) g hf c1.1 c1.2.1 hdesk
      refine ⟨_, PSs.nox (by rw [hX]; exact hwhole), ?_⟩
      -- the run
      have n0 : Now G (fun _ => False) (startE .law [.scr ns]) (L2.start (nm .law) [.ref a]) H [] := by
        have e0 : wo H (fun _ => False) = H := by
          funext b
          unfold wo
          simp
        have hr0 : RepL G (wo H fun _ => False) [.scr ns] [.ref a] := by
          rw [e0]
          refine RepL.cons ?_ RepL.nil
          unfold Rep
          exact ⟨a, rfl, hS⟩
        have hs0 : Shf G (fun _ => False) (fun _ => False) H [] := by
          unfold Shf
          rw [hd]
        exact (start_now (f := .law) (T := fun _ => False) (s := []) (fun b z => z.elim) hs0 hr0 rfl).1
      refine ⟨fun _ => False, _, [], _, n0, ex0, fun σ1 H1 n1 p1' => ?_⟩
      intro xa dx hxa hdx hne
      refine ⟨xa, dx, rfl, upd_same, fun d0 hd0 => ⟨rfl, ?_⟩⟩
      have hd0x : d0 ≠ xa := fun z => by
        rw [z, upd_same] at hd0
        cases hd0
      have hd0' : H1 d0 = none := by
        rw [upd_ne hd0x] at hd0
        by_cases hz : d0 = dx
        · rw [hz]
          exact hdx
        · rwa [upd_ne hz] at hd0
      have nD := desk_now (G := G) (a := xa) (dx := dx) (d0 := d0) (i := 3) (H3 := upd (upd (upd (upd H1 dx (.own xa)) xa (.ins G.C dx [])) d0 (.dK [])) xa (.ins G.C dx [("shelf", .ref d0)])) hd n1 (fun b o e => by
        rw [upd_ne (ne_of_none e hxa), upd_ne (ne_of_none e hd0'), upd_ne (ne_of_none e hxa), upd_ne (ne_of_none e hdx)]
        exact e) hxa hd0' upd_same (by rw [upd_ne hd0x, upd_same]) hlen
      exact ⟨(xa, dx, d0), fun b => b = d0, _, [], _, nD, ex1, fun v H' _ _ r => by
        have r : v = .bl true := r
        subst r
        exact hQ H'⟩
    · cases hc
end
end Pk
end
section
-- PkZip
set_option linter.all false
set_option maxRecDepth 100000
/-! zip of two tuples, of a text and a list. -/
namespace Pk
open PySem PySem.Spec PyProof.Rows L2
/-- a text's signs and a list's items, in new pairs -/
def Itzs (K : PySem.W.Frag) (x : PySem.Str) (b : Addr) : It :=
  ⟨fun i H => i < x.cps.size ∧ ∃ (ys : List V) (y : V), SqL K H b ys ∧ ys[i]? = some y,
   fun i H v H' => ∃ t c y, v = .ref t ∧ H t = none ∧ H' = upd H t (.tup [.str ⟨#[c]⟩, y]) ∧ x.cps[i]? = some c ∧ ∀ ys, SqL K H b ys → ys[i]? = some y,
   fun i H => ∃ ys : List V, SqL K H b ys ∧ i ≤ x.cps.size ∧ i ≤ ys.length ∧ (i = x.cps.size ∨ i = ys.length)⟩
theorem turn_zs {P : Program} {w : World} {K : PySem.W.Frag} {elts : List Expr} {kk : Nat} {tpos : Pos} {b z TI TO i1 i2 : Addr} {x : PySem.Str} {tk : Tok} (S : ZipSep2 z TI TO i1 i2 [i1] [i2, b]) (hb : b ≠ i2) (h12 : i1 ≠ i2) :
    Turn P w K (.Tuple elts kk tpos) (Itzs K x b) [z, TI, TO, i1, i2] z (fun i h => IsZip h z TI TO .none ∧ IsTupOf2 h TI (.ref i1) (.ref i2) ∧ (∃ u v, IsTupOf2 h TO u v) ∧ h.IsStrIter i1 (strIterType x) x tk i ∧ h.IsListIter i2 b i) where
  mem := by simp
  obj := fun i h st q hq => by
    obtain ⟨a1, a2, ⟨u, v, a3⟩, ⟨o1, a4, a5, a6⟩, ⟨o2, a7, a8, a9⟩⟩ := st
    simp only [List.mem_cons, List.not_mem_nil, or_false] at hq
    rcases hq with rfl | rfl | rfl | rfl | rfl
    · exact ⟨_, a1, fun y e => nomatch e⟩
    · exact ⟨_, a2, fun y e => nomatch e⟩
    · exact ⟨_, a3, fun y e => nomatch e⟩
    · exact ⟨o1, a4, fun y e => by rw [a6] at e; cases e⟩
    · exact ⟨o2, a7, fun y e => by rw [a9] at e; cases e⟩
  keep := fun i h h' st k => by
    obtain ⟨a1, a2, ⟨u, v, a3⟩, ⟨o1, a4, a5⟩, a6⟩ := st
    exact ⟨k z (by simp) _ a1, k TI (by simp) _ a2, ⟨u, v, k TO (by simp) _ a3⟩, ⟨o1, k i1 (by simp) _ a4, a5⟩, a6.at fun o e => k i2 (by simp) o e⟩
  item := by
    intro X hP hw hK hc i pins s σ H E I hf st hg
    subst hP hw hK
    obtain ⟨a1, a2, ⟨u, v, a3⟩, a4, a5⟩ := st
    obtain ⟨g1, ys, y, g2, g3⟩ := hg
    obtain ⟨its, rv, pl, _⟩ := I.list g2
    obtain ⟨uy, g4, g5⟩ := rv.get g3
    have hi : i < its.toArray.size := by
      rw [List.size_toArray]
      exact (List.getElem?_eq_some_iff.mp g4).1
    have zl : z < s.heap.objs.size := Heap.lt_size a1
    have hh : X.A.in1.handled = none := I.ok.hd hc
    refine wpAny_pyNext_zipD2_item S (Draws.text hh i1 x tk) (Draws.list hh i2 b hb its.toArray) a1 a2 a3 a4 ⟨a5, pl.isList⟩ g1 hi fun x1 x2 h1 k1 d1 d2 d3 d4 d5 d6 d7 _ d8 => ?_
    obtain ⟨c, tc, d9, rfl⟩ := d1
    have e2 : x2 = uy := by
      have d2' : its.toArray[i]? = some x2 := d2
      rw [List.getElem?_toArray, g4] at d2'
      exact (Option.some.inj d2').symm
    subst e2
    refine ⟨_, rfl, wpAny_letOwnedTupleGo_zip (s := { s with heap := h1, toks := k1 }) d3 fun h2 z2 sb => ?_⟩
    have tup : h2.get? s.heap.objs.size = some { cls := .type "tuple", data := .seq #[.str ⟨#[c]⟩ tc, x2] } := (sb.2 _ (Nat.ne_of_gt zl)).trans d7
    have new : ObjOk X.prog X.w (upd H s.heap.objs.size (.tup [.str ⟨#[c]⟩, y])) h2 s.heap.objs.size (.tup [.str ⟨#[c]⟩, y]) :=
      ⟨by show 2 ≤ sizeLine; decide, [.str ⟨#[c]⟩ tc, x2], .cons ⟨tc, rfl⟩ (.cons g5 .nil), ⟨_, tup, rfl, _, rfl⟩⟩
    have I2 : L2.Inv X pins σ (upd H s.heap.objs.size (.tup [.str ⟨#[c]⟩, y])) { s with heap := h2, toks := k1 } :=
      I.turnedNew (t' := k1) (ch := [z, TI, TO, i1, i2]) (fun q o hq e => (sb.2 q (fun r => hq (by simp [r]))).trans (d8 q o (fun r => hq (by simp [r])) (fun r => hq (by simp [r])) (fun r => hq (by simp [r])) (fun r => hq (by simp [r])) e)) hf (Nat.le_refl _) new
    have ne1 : i1 ≠ z := fun e => S.zf1 (by rw [← e]; exact S.mem1)
    have ne2 : i2 ≠ z := fun e => S.zf2 (by rw [← e]; exact S.mem2)
    refine ⟨.ref s.heap.objs.size, _, I2, rfl, ⟨_, c, y, rfl, I.hok.fresh (Nat.le_refl _), rfl, d9, fun l hl => by rw [I.list_inj hl g2]; exact g3⟩, ⟨z2, ?_, ⟨_, _, (sb.2 _ S.TOz).trans d4⟩, ?_, d6.1.at fun o q => (sb.2 _ ne2).trans q⟩, fun q hq => ?_⟩
    · exact (sb.2 _ S.TIz).trans (d8 _ _ S.TIz S.TITO S.TIi1 S.TIi2 a2)
    · obtain ⟨o1, b1, b2⟩ := d5
      exact ⟨o1, (sb.2 _ ne1).trans b1, b2⟩
    · have lt : q < s.heap.objs.size := by
        have hq' := hq
        simp only [List.mem_cons, List.not_mem_nil, or_false] at hq'
        rcases hq' with r | r | r | r | r
        · rw [r]; exact zl
        · rw [r]; exact Heap.lt_size a2
        · rw [r]; exact Heap.lt_size a3
        · rw [r]; obtain ⟨_, b1, _⟩ := a4; exact Heap.lt_size b1
        · rw [r]; obtain ⟨_, b1, _⟩ := a5; exact Heap.lt_size b1
      rw [upd_ne (Nat.ne_of_lt lt)]
      exact (hf q hq).1
  done := by
    intro X hP hw hK hc i pins s σ H E I hf st hg
    subst hP hw hK
    obtain ⟨a1, a2, ⟨u, v, a3⟩, a4, a5⟩ := st
    obtain ⟨ys, g2, g3, g4, g5⟩ := hg
    obtain ⟨its, rv, pl, _⟩ := I.list g2
    have hl := rv.length
    have hh : X.A.in1.handled = none := I.ok.hd hc
    refine wpAny_pyNext_zipD2_end S (Draws.text hh i1 x tk) (Draws.list hh i2 b hb its.toArray) a1 a2 a3 a4 ⟨a5, pl.isList⟩ g3 (by rw [List.size_toArray]; omega) (g5.imp id fun e => by rw [List.size_toArray]; omega) fun h1 k1 d8 => ⟨rfl, ?_⟩
    exact I.turnedL (t' := k1) (ch := [z, TI, TO, i1, i2]) (fun q o hq e => d8 q o (fun r => hq (by simp [r])) (fun r => hq (by simp [r])) (fun r => hq (by simp [r])) (fun r => hq (by simp [r])) e) hf
  self := fun A i s Q E st h => wpAny_pyIter_zip st.1 h
def iZs (K : PySem.W.Frag) (ta : TA) : TI := fun σ H R => ta σ H fun vs H1 => ∃ x b ys, vs = [.str x, .ref b] ∧ SqL K H1 b ys ∧ R (Itzs K x b) H1
theorem pi_zs {X : Cx} {e e2 : Expr} {ta : TA} {p pos tpos : Pos} {elts : List Expr} {kk : Nat} (hg : Gl X "zip") (hm : X.mg "zip" = none) (ha : PA X [e, e2] ta)
    (hs : starEach [e, e2] X.env = (false, eval e X.env) :: starEach [e2] X.env) (hpl : (backTo pos (starEach [e2] X.env)).any (·.1) = false) : PI X (.Tuple elts kk tpos) (.Call (.Name "zip" p) [e, e2] [] pos) (iZs X.K ta) := by
  refine ⟨fun pins s σ H R I h => ?_⟩
  refine Call_ (ld_blt I hg hm PyProof.Rows.boot_zip (PyProof.Rows.callWith_type1 (thn (ha.run pos pins s σ H _ I h) fun us s1 ⟨vs, H1, I1, r1, x, b, ys, hv, hq, q⟩ => ?_) hs hpl))
  subst hv
  obtain ⟨u1, u2, rfl, ⟨tk, rfl⟩, r2⟩ := vals2 r1
  cases r2
  obtain ⟨its, rv, pl, _⟩ := I1.list hq
  have bl : b < s1.heap.objs.size := pl.lt
  have fresh : ∀ c, s1.heap.objs.size ≤ c → FpOk X pins H1 c := fun c hc => I1.fpOk hc (I1.hok.fresh hc)
  refine zip_begins2 (begins_text x tk) (begins_list b its.toArray) trivial pl.isList fun h1 d1 d2 d3 d4 d5 _ d6 => wpAny_pyIter_zip d1 ?_
  have I2 : L2.Inv X pins σ H1 { s1 with heap := h1 } := I1.kept (t' := s1.toks) d6
  have S : ZipSep2 (s1.heap.objs.size + 4) (s1.heap.objs.size + 2) (s1.heap.objs.size + 3) s1.heap.objs.size (s1.heap.objs.size + 1) [s1.heap.objs.size] [s1.heap.objs.size + 1, b] := zip_sep2 (fp1 := []) (fp2 := [b]) (fun c hc => by cases hc) (fun c hc => by
    rw [List.mem_singleton.mp hc]
    exact bl)
  refine ⟨s1.heap.objs.size + 4, [s1.heap.objs.size + 4, s1.heap.objs.size + 2, s1.heap.objs.size + 3, s1.heap.objs.size, s1.heap.objs.size + 1], _, _, H1, rfl, I2, turn_zs S (Nat.ne_of_lt (Nat.lt_succ_of_lt bl)) (Nat.ne_of_lt (Nat.lt_succ_self _)), ⟨d1, d2, ⟨_, _, d3⟩, ⟨_, d4, rfl, rfl⟩, ⟨_, d5, rfl, rfl⟩⟩, fun c hc => fresh c ?_, q⟩
  simp only [List.mem_cons, List.not_mem_nil, or_false] at hc
  rcases hc with r | r | r | r | r
  · rw [r]; exact Nat.le_add_right _ _
  · rw [r]; exact Nat.le_add_right _ _
  · rw [r]; exact Nat.le_add_right _ _
  · rw [r]; exact Nat.le_refl _
  · rw [r]; exact Nat.le_add_right _ _
section
variable {G : Gx} {cl : Cl} {k : Nat} {sc : Scope} {N : List PySem.Str} {X : Cx}
theorem wlk_zs {T : Addr → Prop} {H : Hp} {b : Addr} {ws : List V} {u : List Nat} {v : List D} {K : PySem.W.Frag} (hK : K = G.K) (h : wo H T b = some (.lst ws)) (r : RepL G (wo H T) v ws) : Wlk G T (Itzs K ⟨u.toArray⟩ b) (zipD (u.map fun c => .str [c]) v) H := fun H' T' w hT => by
  have h' : SqL K H' b ws := .of ((wo_same H' T') _ _ (w _ _ h))
  have hl := r.len
  refine ⟨fun i d e => ?_, ws, h', ?_⟩
  · obtain ⟨x, y, e1, e2, rfl⟩ := zipD_get e
    rw [List.getElem?_map] at e1
    obtain ⟨c, e3, rfl⟩ := Option.map_eq_some_iff.mp e1
    obtain ⟨vy, e5, e6⟩ := r.get e2
    have hi : i < u.toArray.size := by
      rw [List.size_toArray]
      exact (List.getElem?_eq_some_iff.mp e3).1
    refine ⟨⟨hi, ws, vy, h', e5⟩, fun z H2 hy => ?_⟩
    obtain ⟨t, c', y', rfl, ht, rfl, hx, hy⟩ := hy
    have e7 := hy ws h'
    rw [e5] at e7
    cases e7
    have e8 : u.toArray[i]? = some c' := hx
    rw [List.getElem?_toArray, e3] at e8
    cases e8
    have w2 : Same (wo H' T') (wo (upd H' t (.tup [.str ⟨#[c]⟩, vy])) T') := wo_same2 (same_new ht)
    refine ⟨same_new ht, ?_⟩
    unfold Rep
    exact ⟨t, _, rfl, .of (wo_new hT ht), RepL.cons rfl (RepL.cons (Rep.mono w2 y (Rep.mono w y e6)) RepL.nil)⟩
  · have hz : ∀ (a c : List D), (zipD a c).length = min a.length c.length := by
      intro a
      induction a with
      | nil => intro c; simp [zipD]
      | cons x a ih =>
        intro c
        cases c with
        | nil => simp [zipD]
        | cons y c => simp only [zipD, List.length_cons, ih]; omega
    rw [hz, List.length_map]
    have e0 : u.toArray.size = u.length := List.size_toArray
    show _ ≤ u.toArray.size ∧ _ ≤ ws.length ∧ (_ = u.toArray.size ∨ _ = ws.length)
    rw [e0, ← hl]
    omega
theorem s_zip (g : Gd G cl k sc N X) {a b : ME} {A B : Expr} {es : List Expr} {j : Nat} {tp p q : Pos} (h : glC sc "zip" = true) (hp : plainA A = true) (hq : plainA B = true) (ha : PE X A (wd G cl a)) (hb : PE X B (wd G cl b)) :
    PI X (.Tuple es j tp) (.Call (.Name "zip" p) [A, B] [] q) (wdI G cl (.zip a b)) := by
  obtain ⟨h1, h2⟩ := gl_of g h
  have hA : PA X [A, B] (tCons (wd G cl a) (tCons (wd G cl b) tNil)) := pa_cons ha (one_pa hq hb) (plain_star hp)
  have hs := plain_star (es := [B]) (env := X.env) hp
  have hpl : (backTo q (starEach [B] X.env)).any (·.1) = false := plains_any (by simp [hq])
  refine PI.imp (PI.or (RZ.pi_zipA h1 (bl_none g (by decide)) hA hs hpl) (pi_zs h1 (bl_none g (by decide)) hA hs hpl)) fun σ H R ⟨S, ρ, s, xs, s', n, e, qq⟩ => ?_
  obtain ⟨x, s1, y, e1, e2, e3⟩ := inv_zip e
  rcases e3 with ⟨u, v, rfl, rfl, rfl⟩ | ⟨u, v, rfl, rfl, rfl⟩
  · refine .inl ⟨S, ρ, s, _, s1, n, e1, fun v1 H1 f1 h1 r1 => ⟨S, ρ, s1, _, s', n.fr f1 h1, e2, fun v2 H2 f2 h2 r2 => ?_⟩⟩
    have r1 := Rep.mono ((n.fr f1 h1).up f2) _ r1
    unfold Rep at r1 r2
    obtain ⟨b1, vs, rfl, h3, h4⟩ := r1
    obtain ⟨b2, ws, rfl, h5, h6⟩ := r2
    exact ⟨b1, b2, vs, ws, rfl, .inr ⟨by rw [g.C.K]; exact Same.sqt (wo_same _ _) h3, by rw [g.C.K]; exact Same.sqt (wo_same _ _) h5, qq _ _ (f1.trans f2) h2 (wlk_zip g.C.K h3 h4 h5 h6)⟩⟩
  · refine .inr ⟨S, ρ, s, _, s1, n, e1, fun v1 H1 f1 h1 r1 => ⟨S, ρ, s1, _, s', n.fr f1 h1, e2, fun v2 H2 f2 h2 r2 => ?_⟩⟩
    rw [repStr r1]
    unfold Rep at r2
    obtain ⟨b2, ws, rfl, h5, h6⟩ := r2
    exact ⟨_, b2, ws, rfl, .of ((wo_same _ _) _ _ h5), qq _ _ (f1.trans f2) h2 (wlk_zs g.C.K h5 h6)⟩
end
end Pk
end
section
-- PkSet1
set_option linter.all false
set_option maxRecDepth 100000
/-! set(x) of a list, of a tuple. -/
namespace Pk
open PySem PySem.Spec PyProof.Rows L2
abbrev newSet (w : World) : Obj := { cls := .type "set", dict := none, data := .set #[] 0 (.fresh 0 0 (!w.params.followText "set-order")) }
section
variable {P : Program} {w : World} {A : Around} {E : Value → Shared → Prop} {s : Shared}
set_option maxRecDepth 100000 in
set_option maxHeartbeats 3200000 in
theorem set_of_list {l : Addr} {its : Array Value} {W : Heap → Nat → Prop} {Q : Value → Shared → Prop} (hl : s.heap.IsList l its)
    (loop : ∀ (B : Around) (R : Result → Shared → Prop), (A.handled = none → B.handled = none) → B.units ≤ A.units + 3 → (∀ h' tk, W h' tk → R (.ok (.ret .none)) { s with heap := h', toks := tk }) →
      codeAny (model P w) B (.builtin "set.update.loop" ⟨[.ref s.heap.objs.size, .ref (s.heap.push (newSet w)).objs.size], []⟩) R { s with heap := (s.heap.push (newSet w)).push { cls := .type "list_iterator", data := .fields #[.ref l, .int 0 0] } })
    (fin : ∀ h' tk, W h' tk → Q (.ref s.heap.objs.size) { s with heap := h', toks := tk }) : wpAny (model P w) A (call (.type "set") [.ref l]) Q E s := by
  obtain ⟨c1, tl1, mro1⟩ := F.called_set.mro
  have made1 := F.called_set.made
  have sub1 := F.called_set.sub
  refine wpAny_call (codeAny_of_tree ?_)
  show wpAny _ _ (callAny (.type "set") ⟨[.ref l], []⟩) _ _ s
  refine wpAny_pure ⟨Code.quiet_builtin _ (by decide +kernel), codeAny_builtin F.entry_type_call ?w0⟩
  case w0 =>
  rw [Around.under_plain (weight_type_call_type "set" [.ref l] []) rfl]
  have nt1 := F.called_set.notType
  have cc1 := F.called_set.canCreate
  have tc1 := F.typeCall_set_1 (.ref l)
  repeat (any_goals (first | assumption | wp_step))
  refine codeAny_mono (code_set_led1 (.ref l) (E := E) (Q₁ := fun ob s1 => ob = .ref s.heap.objs.size ∧ s1 = { s with heap := s.heap.push (newSet w) }) ⟨rfl, rfl⟩) fun r s1 hr => ?w1
  case w1 =>
  cases r with
  | error e => exact hr
  | ok fl =>
    cases fl with
    | next => exact hr.elim
    | brk => exact hr.elim
    | cont => exact hr.elim
    | ret ob =>
      obtain ⟨rfl, rfl⟩ := hr
      have atS : (s.heap.push (newSet w)).get? s.heap.objs.size = some (newSet w) := Heap.get?_push_size _ rfl
      have tyS : Shared.TypeIs { s with heap := s.heap.push (newSet w) } (.ref s.heap.objs.size) "set" := ⟨_, atS, rfl⟩
      have il1 := F.called_set.init.lookup
      have ib1 := F.called_set.init.bind (.ref s.heap.objs.size)
      repeat (any_goals (first | assumption | wp_step))
      refine codeAny_mono (codeAny_call_builtin (R := wants (fun r s2 => r = .none ∧ ∃ h' tk, s2 = { s with heap := h', toks := tk } ∧ W h' tk) E) F.called_set.init.plain F.entry_set_init (check_set_init_1 tyS ?w2)) fun r2 s2 hr2 => ?w3
      case w2 =>
        obtain ⟨ol, hol, hcl, nl, hdl⟩ := hl
        obtain ⟨oc, od, odt, osl⟩ := ol
        simp only at hcl hdl
        subst hcl
        subst hdl
        have atl : (s.heap.push (newSet w)).get? l = some { cls := .type "list", dict := od, data := .seq its nl, slots := osl } := Heap.get?_push_of_some _ hol
        have q1 := F.sub_list_set
        have q2 := F.sub_list_frozenset
        have q3 : (Value.type "list" == Value.type "dict") = false := by decide
        have isl : (s.heap.push (newSet w)).IsList l its := ⟨_, atl, rfl, nl, rfl⟩
        unfold Builtin.«set.__init__»
        unfold noKeywords Builtin.Frozenset.updateFrom
        generalize hPI : pyIter = PI
        wp_walk
        subst hPI
        refine wpAny_pyIter_list isl ?_
        refine wpAny_bind (wpAny_runValue ?_)
        refine loop _ _ (fun z => by simp [z]) (by simp [Around.in1]) fun h' tk hw => ?_
        refine wpAny_pure ?_
        show wpAny _ _ (ret Value.none) _ _ { s with heap := h', toks := tk }
        exact wpAny_pure ⟨rfl, h', tk, rfl, hw⟩
      case w3 =>
        cases r2 with
        | error e => exact hr2
        | ok fl2 =>
          cases fl2 with
          | next => exact hr2.elim
          | brk => exact hr2.elim
          | cont => exact hr2.elim
          | ret r =>
            obtain ⟨rfl, h', tk, rfl, hw⟩ := hr2
            repeat (any_goals (first | assumption | wp_step))
            exact fin _ _ hw

set_option maxRecDepth 100000 in
set_option maxHeartbeats 3200000 in
theorem set_of_tuple {l : Addr} {its : Array Value} {W : Heap → Nat → Prop} {Q : Value → Shared → Prop} (hl : s.heap.IsTuple l its)
    (loop : ∀ (B : Around) (R : Result → Shared → Prop), (A.handled = none → B.handled = none) → B.units ≤ A.units + 3 → (∀ h' tk, W h' tk → R (.ok (.ret .none)) { s with heap := h', toks := tk }) →
      codeAny (model P w) B (.builtin "set.update.loop" ⟨[.ref s.heap.objs.size, .ref (s.heap.push (newSet w)).objs.size], []⟩) R { s with heap := (s.heap.push (newSet w)).push { cls := .type "tuple_iterator", data := .fields #[.ref l, .int 0 0] } })
    (fin : ∀ h' tk, W h' tk → Q (.ref s.heap.objs.size) { s with heap := h', toks := tk }) : wpAny (model P w) A (call (.type "set") [.ref l]) Q E s := by
  obtain ⟨c1, tl1, mro1⟩ := F.called_set.mro
  have made1 := F.called_set.made
  have sub1 := F.called_set.sub
  refine wpAny_call (codeAny_of_tree ?_)
  show wpAny _ _ (callAny (.type "set") ⟨[.ref l], []⟩) _ _ s
  refine wpAny_pure ⟨Code.quiet_builtin _ (by decide +kernel), codeAny_builtin F.entry_type_call ?w0⟩
  case w0 =>
  rw [Around.under_plain (weight_type_call_type "set" [.ref l] []) rfl]
  have nt1 := F.called_set.notType
  have cc1 := F.called_set.canCreate
  have tc1 := F.typeCall_set_1 (.ref l)
  repeat (any_goals (first | assumption | wp_step))
  refine codeAny_mono (code_set_led1 (.ref l) (E := E) (Q₁ := fun ob s1 => ob = .ref s.heap.objs.size ∧ s1 = { s with heap := s.heap.push (newSet w) }) ⟨rfl, rfl⟩) fun r s1 hr => ?w1
  case w1 =>
  cases r with
  | error e => exact hr
  | ok fl =>
    cases fl with
    | next => exact hr.elim
    | brk => exact hr.elim
    | cont => exact hr.elim
    | ret ob =>
      obtain ⟨rfl, rfl⟩ := hr
      have atS : (s.heap.push (newSet w)).get? s.heap.objs.size = some (newSet w) := Heap.get?_push_size _ rfl
      have tyS : Shared.TypeIs { s with heap := s.heap.push (newSet w) } (.ref s.heap.objs.size) "set" := ⟨_, atS, rfl⟩
      have il1 := F.called_set.init.lookup
      have ib1 := F.called_set.init.bind (.ref s.heap.objs.size)
      repeat (any_goals (first | assumption | wp_step))
      refine codeAny_mono (codeAny_call_builtin (R := wants (fun r s2 => r = .none ∧ ∃ h' tk, s2 = { s with heap := h', toks := tk } ∧ W h' tk) E) F.called_set.init.plain F.entry_set_init (check_set_init_1 tyS ?w2)) fun r2 s2 hr2 => ?w3
      case w2 =>
        obtain ⟨ol, hol, hcl, nl, hdl⟩ := hl
        obtain ⟨oc, od, odt, osl⟩ := ol
        simp only at hcl hdl
        subst hcl
        subst hdl
        have atl : (s.heap.push (newSet w)).get? l = some { cls := .type "tuple", dict := od, data := .seq its nl, slots := osl } := Heap.get?_push_of_some _ hol
        have q1 := F.sub_tuple_set
        have q2 := F.sub_tuple_frozenset
        have q3 : (Value.type "tuple" == Value.type "dict") = false := by decide
        have isl : (s.heap.push (newSet w)).IsTuple l its := ⟨_, atl, rfl, nl, rfl⟩
        unfold Builtin.«set.__init__»
        unfold noKeywords Builtin.Frozenset.updateFrom
        generalize hPI : pyIter = PI
        wp_walk
        subst hPI
        refine wpAny_pyIter_tuple isl ?_
        refine wpAny_bind (wpAny_runValue ?_)
        refine loop _ _ (fun z => by simp [z]) (by simp [Around.in1]) fun h' tk hw => ?_
        refine wpAny_pure ?_
        show wpAny _ _ (ret Value.none) _ _ { s with heap := h', toks := tk }
        exact wpAny_pure ⟨rfl, h', tk, rfl, hw⟩
      case w3 =>
        cases r2 with
        | error e => exact hr2
        | ok fl2 =>
          cases fl2 with
          | next => exact hr2.elim
          | brk => exact hr2.elim
          | cont => exact hr2.elim
          | ret r =>
            obtain ⟨rfl, h', tk, rfl, hw⟩ := hr2
            repeat (any_goals (first | assumption | wp_step))
            exact fin _ _ hw

end
end Pk
end
section
-- PkSet2
set_option linter.all false
set_option maxRecDepth 100000
/-! sorted(set(t)), t a tuple of pairs. -/
namespace Pk
open PySem PySem.Spec PyProof.Rows L2
/-! ### each once, rising -/
section
variable {α : Type} [DecidableEq α] {lt : α → α → Bool}
theorem insU_mem (x : α) : ∀ (l : List α) (y : α), y ∈ insU lt x l ↔ y = x ∨ y ∈ l
  | [], y => by simp [insU]
  | z :: r, y => by
    unfold insU
    by_cases h1 : x = z
    · rw [if_pos h1, List.mem_cons, h1]
      exact ⟨fun h => .inr h, fun h => h.elim .inl id⟩
    · rw [if_neg h1]
      by_cases h2 : lt x z = true
      · rw [if_pos h2, List.mem_cons]
      · rw [if_neg h2, List.mem_cons, insU_mem x r y, List.mem_cons]
        exact ⟨fun h => h.elim (fun h => .inr (.inl h)) fun h => h.elim .inl fun h => .inr (.inr h), fun h => h.elim (fun h => .inr (.inl h)) fun h => h.elim .inl fun h => .inr (.inr h)⟩
theorem sortU_mem : ∀ (l : List α) (y : α), y ∈ sortU lt l ↔ y ∈ l
  | [], y => Iff.rfl
  | x :: r, y => by
    show y ∈ insU lt x (sortU lt r) ↔ _
    rw [insU_mem, sortU_mem r y, List.mem_cons]
theorem insU_sorted (tr : ∀ a b c, lt a b = true → lt b c = true → lt a c = true) (tot : ∀ a b, lt a b = false → lt b a = false → a = b) (x : α) : ∀ l : List α, l.Pairwise (fun a b => lt a b = true) → (insU lt x l).Pairwise (fun a b => lt a b = true)
  | [], _ => List.pairwise_cons.mpr ⟨fun _ h => (by cases h), List.Pairwise.nil⟩
  | z :: r, h => by
    obtain ⟨h1, h2⟩ := List.pairwise_cons.mp h
    unfold insU
    by_cases e : x = z
    · rw [if_pos e]
      exact h
    · rw [if_neg e]
      by_cases c : lt x z = true
      · rw [if_pos c]
        refine List.pairwise_cons.mpr ⟨fun y hy => ?_, h⟩
        rcases List.mem_cons.mp hy with q | q
        · rw [q]; exact c
        · exact tr _ _ _ c (h1 y q)
      · rw [if_neg c]
        refine List.pairwise_cons.mpr ⟨fun y hy => ?_, insU_sorted tr tot x r h2⟩
        rcases (insU_mem x r y).mp hy with q | q
        · rw [q]
          cases d : lt z x with
          | true => rfl
          | false => exact absurd (tot x z (by simpa using c) d) e
        · exact h1 y q
theorem sortU_sorted (tr : ∀ a b c, lt a b = true → lt b c = true → lt a c = true) (tot : ∀ a b, lt a b = false → lt b a = false → a = b) : ∀ l : List α, (sortU lt l).Pairwise (fun a b => lt a b = true)
  | [] => List.Pairwise.nil
  | x :: r => insU_sorted tr tot x _ (sortU_sorted tr tot r)
/-- the one such list -/
theorem sortU_one (tr : ∀ a b c, lt a b = true → lt b c = true → lt a c = true) (as : ∀ a b, lt a b = true → lt b a = false) (tot : ∀ a b, lt a b = false → lt b a = false → a = b) {l m : List α} (hm : ∀ y, y ∈ m ↔ y ∈ l) (hs : m.Pairwise (fun a b => lt a b = true)) : m = sortU lt l := by
  have irr : ∀ a, lt a a ≠ true := fun a h => by
    have := as a a h
    rw [h] at this
    cases this
  have nd : ∀ {k : List α}, k.Pairwise (fun a b => lt a b = true) → k.Nodup := fun {k} h => List.Pairwise.imp (S := fun a b => a ≠ b) (fun {a b} (h : lt a b = true) (e : a = b) => irr a (by rw [← e] at h; exact h)) h
  have hu := sortU_sorted tr tot l
  have pm : m.Perm (sortU lt l) := (List.perm_ext_iff_of_nodup (nd hs) (nd hu)).mpr fun y => (hm y).trans (sortU_mem l y).symm
  exact List.Perm.eq_of_pairwise (fun a b _ _ h1 h2 => by
    have := as a b h1
    rw [h2] at this
    cases this) hs hu pm
end
theorem ltP_trn (a b c : Int × Int) (h : ltP a b = true) (h' : ltP b c = true) : ltP a c = true := by
  unfold ltP at *
  simp only [decide_eq_true_eq] at *
  omega
theorem ltS_trn (a b c : List Nat) (h : ltS a b = true) (h' : ltS b c = true) : ltS a c = true := by
  unfold ltS at *
  simp only [decide_eq_true_eq] at *
  exact List.lt_trans h h'
/-! ### the set of a tuple's pairs -/
section
variable {P : Program} {w : World} {A : Around} {E : Value → Shared → Prop} {s : Shared}
theorem tups_of_tuple {l : Addr} {its : Array Value} (ks : List (Addr × List Int)) {Q : Value → Shared → Prop} (hh : A.handled = none) (hl : s.heap.IsTuple l its) (hit : its.toList = ks.map fun p => Value.ref p.1) (hk : ∀ p ∈ ks, IsT P w s.heap p.2 p.1) (hfew : ks.length < 64) (hu : A.units + 5 < cLine)
    (fin : ∀ (h' : Heap) (tk : Nat) L es ep t, SetTR P w h' s.heap.objs.size L es ep t → Got ks ks.length L → (∀ b o, s.heap.get? b = some o → h'.get? b = some o) → Q (.ref s.heap.objs.size) { s with heap := h', toks := tk }) :
    wpAny (model P w) A (call (.type "set") [.ref l]) Q E s := by
  have sz : its.size = ks.length := by
    have q := congrArg List.length hit
    rw [Array.length_toList, List.length_map] at q
    exact q
  have lS : l < s.heap.objs.size := by
    obtain ⟨o, ho, _⟩ := hl
    exact Heap.lt_size ho
  have z1 : (s.heap.push (newSet w)).objs.size = s.heap.objs.size + 1 := Heap.size_push ..
  refine set_of_tuple (W := fun h' _ => ∃ L es ep t, SetTR P w h' s.heap.objs.size L es ep t ∧ Got ks ks.length L ∧ ∀ b o, s.heap.get? b = some o → h'.get? b = some o) hl (fun B R hB hU hR => ?_) fun h' tk ⟨L, es, ep, t, h1, h2, h3⟩ => fin h' tk L es ep t h1 h2 h3
  have isl : (s.heap.push (newSet w)).IsTuple l its := by
    obtain ⟨o, ho, r⟩ := hl
    exact ⟨o, Heap.get?_push_of_some _ ho, r⟩
  have nI : l ≠ (s.heap.push (newSet w)).objs.size := by rw [z1]; exact Nat.ne_of_lt (Nat.lt_succ_of_lt lS)
  have nS : s.heap.objs.size ∉ [(s.heap.push (newSet w)).objs.size, l] := by
    rw [z1]
    simp only [List.mem_cons, List.not_mem_nil, or_false, not_or]
    exact ⟨Nat.ne_of_lt (Nat.lt_succ_self _), Nat.ne_of_gt lS⟩
  have gone : ∀ b, s.heap.objs.size ≤ b → s.heap.get? b = none := fun b hb => by
    cases q : s.heap.get? b with
    | none => rfl
    | some o => exact absurd (Nat.lt_of_lt_of_le (Heap.lt_size q) hb) (Nat.lt_irrefl _)
  have hv : ∀ (i : Nat) (v : Value), its[i]? = some v → ∃ p, ks[i]? = some p ∧ v = .ref p.1 := fun i v h => by
    have q : its.toList[i]? = some v := by rw [Array.getElem?_toList]; exact h
    rw [hit, List.getElem?_map] at q
    obtain ⟨p, h1, h2⟩ := Option.map_eq_some_iff.mp q
    exact ⟨p, h1, h2.symm⟩
  have hBh : B.in1.handled = none := hB hh
  have hBu : B.in1.units < cLine := by
    show B.units + 1 < cLine
    omega
  refine set_update_tups ((Walks.tuple hBh _ l nI its).toS) s.heap.objs.size nS ks sz hfew hv s.heap hk (gone _ (Nat.le_refl _)) (fun b hb => gone b (by
    rw [List.mem_singleton.mp hb, z1]
    exact Nat.le_succ _)) hBu (its.size - 0) 0 _ (by omega) (Nat.zero_le _) ⟨⟨_, Heap.get?_push_size _ rfl, rfl, rfl⟩, ?c1⟩ (fun b o e => Heap.get?_push_of_some _ (Heap.get?_push_of_some _ e)) ⟨[], #[], 0, _, setTR_fresh (Heap.get?_push_of_some _ (Heap.get?_push_size _ rfl)), Got.zero ks⟩ ?c2
  case c1 =>
    obtain ⟨o, ho, r⟩ := isl
    exact ⟨o, Heap.get?_push_of_some _ ho, r⟩
  case c2 =>
    intro s2 L es ep t hm r1 r2 r3
    obtain ⟨h2, g2, d2, k2, o2⟩ := s2
    have e1 : g2 = s.gens := hm.gens
    have e2 : d2 = s.drawn := hm.drawn
    have e3 : o2 = s.os := hm.os
    subst e1 e2 e3
    rw [sz] at r2
    exact hR h2 k2 ⟨L, es, ep, t, r1, r2, r3⟩
end
section
variable {G : Gx} {cl : Cl} {k : Nat} {sc : Scope} {N : List PySem.Str} {X : Cx}
/-- the pairs' tuples, where they stand -/
theorem prL_ks {H : Hp} : ∀ {vs : List V} {ns : List (Int × Int)}, PrL G H vs ns → ∃ ks : List (Addr × List Int), vs = ks.map (fun p => V.ref p.1) ∧ ks.map (·.2) = ns.map (fun p => [p.1, p.2]) ∧ ∀ p ∈ ks, SqT G.K H p.1 (p.2.map V.int)
  | [], ns, h => by
    have e : ns = [] := h
    subst e
    exact ⟨[], rfl, rfl, fun p hp => by cases hp⟩
  | v :: vs, ns, h => by
    obtain ⟨p, r, rfl, ⟨t, rfl, h1⟩, h2⟩ := h
    obtain ⟨ks, h3, h4, h5⟩ := prL_ks h2
    refine ⟨(t, [p.1, p.2]) :: ks, by rw [h3]; rfl, by rw [List.map_cons, h4]; rfl, fun q hq => ?_⟩
    rcases List.mem_cons.mp hq with e | e
    · rw [e]; exact h1
    · exact h5 q e
def rSetTT (K : PySem.W.Frag) (P : Program) (w : World) : List V → Hp → VK → Prop := fun xs H Q => ∃ (l : Addr) (ks : List (Addr × List Int)), xs = [V.ref l] ∧ SqT K H l (ks.map fun p => V.ref p.1) ∧ (∀ p ∈ ks, SqT K H p.1 (p.2.map V.int)) ∧ ks.length < 64 ∧
  ∀ a L, H a = none → (∀ p ∈ L, p ∈ ks) → (∀ p ∈ ks, p.2 ∈ L.map (·.2)) → Q (.ref a) (upd H a (SetTO P w a L))
theorem cr_setTT (hc : X.calm = true) (hu : X.A.units + 65 < cLine) : CallR X (.type "set") (rSetTT X.K X.prog X.w) := by
  intro pins s σ H xs us Q I r h
  obtain ⟨l, ks, rfl, hl, hk, hf, q⟩ := h
  rw [Vals.ref1 r]
  obtain ⟨its, rv, tp, hz⟩ := I.tuple hl
  have hn : H s.heap.objs.size = none := I.hok.fresh (Nat.le_refl _)
  refine tups_of_tuple (P := X.prog) (w := X.w) ks (I.ok.hd hc) (show s.heap.IsTuple l its.toArray from tp) (by simpa using refs_of_vals rv) (fun p hp => L2.Inv.isT I (hk p hp)) hf (by omega) fun h' tk L es ep t R g kp => ?_
  refine ⟨.ref s.heap.objs.size, upd H s.heap.objs.size (SetTO X.prog X.w s.heap.objs.size L), I.laid (t' := tk) kp (Nat.le_refl _) (setTO_new R.t0), rfl, q _ L hn (fun p hp => List.mem_of_mem_take (g.sub p hp)) fun p hp => g.all p (by rw [List.take_length]; exact hp)⟩
theorem set_cases {x z : D} (h : ssetD x = some z) : (∃ l ns, x = .lst l ∧ l.length < 64 ∧ asStrs l = some ns ∧ z = .lst ((sortU ltS ns).map .str)) ∨ (∃ l ns, x = .tup l ∧ l.length < 64 ∧ asPrs l = some ns ∧ (∀ p ∈ ns, 0 ≤ p.1 ∧ p.1 < 64 ∧ 0 ≤ p.2 ∧ p.2 < 64) ∧ z = .lst ((sortU ltP ns).map ofPair)) := by
  unfold ssetD at h
  split at h
  · split at h
    · obtain ⟨ns, h1, h2⟩ := Option.map_eq_some_iff.mp h
      exact .inl ⟨_, ns, rfl, ‹_›, h1, h2.symm⟩
    · cases h
  · split at h
    · obtain ⟨ns, h1, h2⟩ := Option.bind_eq_some_iff.mp h
      split at h2
      · rename_i hb
        cases h2
        exact .inr ⟨_, ns, rfl, ‹_›, h1, fun p hp => of_decide_eq_true (List.all_eq_true.mp hb p hp), rfl⟩
      · cases h2
    · cases h
  · cases h
theorem refs_prL {H : Hp} : ∀ {L : List (Addr × List Int)}, (∀ q ∈ L, ∃ p : Int × Int, q.2 = [p.1, p.2] ∧ SqT G.K H q.1 (q.2.map V.int)) → ∃ ns : List (Int × Int), L.map (·.2) = ns.map (fun p => [p.1, p.2]) ∧ PrL G H (L.map fun q => V.ref q.1) ns
  | [], _ => ⟨[], rfl, rfl⟩
  | q :: L, h => by
    obtain ⟨p, h1, h2⟩ := h q List.mem_cons_self
    obtain ⟨ns, h3, h4⟩ := refs_prL (L := L) fun r hr => h r (List.mem_cons_of_mem _ hr)
    refine ⟨p :: ns, by rw [List.map_cons, h3, h1]; rfl, p, ns, rfl, ⟨q.1, rfl, ?_⟩, h4⟩
    rw [h1] at h2
    exact h2
theorem ssetT_run (C : Ctx G X) {H : Hp} {Q : VK} {T : Addr → Prop} {l : List D} {ns : List (Int × Int)} {x : V} (hT : Dom T H) (hx : Rep G (wo H T) (.tup l) x) (hl : l.length < 64) (hn : asPrs l = some ns) (hb : ∀ p ∈ ns, 0 ≤ p.1 ∧ p.1 < 64 ∧ 0 ≤ p.2 ∧ p.2 < 64)
    (q : VRes G T H (.lst ((sortU ltP ns).map ofPair)) Q) : rSetTT X.K X.prog X.w [x] H (fun y H1 => rSortedT X.K X.prog X.w [y] H1 Q) := by
  unfold Rep at hx
  obtain ⟨b, vs, rfl, h1, h2⟩ := hx
  have hlen := h2.len
  obtain ⟨h3, _⟩ := h2.asPrs hn
  obtain ⟨ks, rfl, h4, h5⟩ := prL_ks h3
  have up : ∀ {c : Addr} {zs : List V}, SqT G.K (wo H T) c zs → SqT X.K H c zs := fun {c zs} h => by rw [C.K]; exact Same.sqt (wo_same H T) h
  refine ⟨b, ks, rfl, up h1, fun p hp => up (h5 p hp), by rw [List.length_map] at hlen; omega, fun a L ha h6 h7 => ?_⟩
  have keep : ∀ {c : Addr} {zs : List V}, SqT G.K (wo H T) c zs → SqT G.K (wo (upd H a (SetTO X.prog X.w a L)) T) c zs := fun {c zs} h => Same.sqt (wo_same2 (same_new ha)) h
  have key : ∀ p ∈ ks, ∃ r : Int × Int, p.2 = [r.1, r.2] ∧ r ∈ ns := fun p hp => by
    have h8 : p.2 ∈ ns.map (fun p => [p.1, p.2]) := by rw [← h4]; exact List.mem_map_of_mem hp
    obtain ⟨r, h9, h10⟩ := List.mem_map.mp h8
    exact ⟨r, h10.symm, h9⟩
  refine ⟨a, L, 2, 64, rfl, upd_same, fun p hp => ?_, by decide, fun p hp => ?_, fun L' c pm nd hf pw hc => ?_⟩
  · rw [C.K]
    exact Same.sqt (wo_same _ T) (keep (h5 p (h6 p hp)))
  · obtain ⟨r, h8, h9⟩ := key p (h6 p hp)
    rw [h8]
    exact ⟨rfl, bd_pair (hb r h9)⟩
  · have dom2 : Dom T (upd H a (SetTO X.prog X.w a L)) := fun d hd e => by
      by_cases z : d = a
      · rw [z, upd_same] at e
        cases e
      · rw [upd_ne z] at e
        exact hT d hd e
    obtain ⟨ms, h8, h9⟩ := refs_prL (G := G) (H := wo (upd H a (SetTO X.prog X.w a L)) T) (L := L') fun r hr => by
      have h10 := h6 r (pm.mem_iff.mp hr)
      obtain ⟨p, h11, _⟩ := key r h10
      exact ⟨p, h11, keep (h5 r h10)⟩
    have inj : ∀ p p' : Int × Int, ([p.1, p.2] : List Int) = [p'.1, p'.2] → p = p' := fun p p' e => by
      injection e with e1 e2
      injection e2 with e2 _
      exact Prod.ext e1 e2
    have mem : ∀ y, y ∈ ms ↔ y ∈ ns := fun y => by
      have m1 : y ∈ ms ↔ ([y.1, y.2] : List Int) ∈ L'.map (·.2) := by
        rw [h8, List.mem_map]
        exact ⟨fun h => ⟨y, h, rfl⟩, fun ⟨z, hz, e⟩ => by rw [← inj _ _ e]; exact hz⟩
      rw [m1, (pm.map (·.2)).mem_iff]
      constructor
      · intro h
        obtain ⟨p, hp, e⟩ := List.mem_map.mp h
        obtain ⟨r, e2, hr⟩ := key p (h6 p hp)
        rw [e2] at e
        rw [← inj _ _ e]
        exact hr
      · intro h
        have h10 : ([y.1, y.2] : List Int) ∈ ks.map (·.2) := by
          rw [h4]
          exact List.mem_map.mpr ⟨y, h, rfl⟩
        obtain ⟨p, hp, e⟩ := List.mem_map.mp h10
        rw [← e]
        exact h7 p hp
    have srt : ms.Pairwise (fun a b => ltP a b = true) := by
      have p1 : (L'.map (·.2)).Pairwise (fun u v => TS.code 64 u ≤ TS.code 64 v ∧ u ≠ v) := by
        have pw2 : (L'.map (·.2)).Pairwise (fun u v => TS.code 64 u ≤ TS.code 64 v) := List.pairwise_map.mpr pw
        exact pw2.and nd
      rw [h8] at p1
      have p2 := List.pairwise_map.mp p1
      refine p2.imp_of_mem fun {u v} hu hv h => ?_
      have b1 := hb u ((mem u).mp hu)
      have b2 := hb v ((mem v).mp hv)
      have h10 := h.1
      rw [code_pair, code_pair] at h10
      have h11 : u ≠ v := fun e => h.2 (by rw [e])
      unfold ltP
      rw [decide_eq_true_eq]
      by_cases e1 : u.1 = v.1
      · refine .inr ⟨e1, ?_⟩
        by_cases e2 : u.2 = v.2
        · exact absurd (Prod.ext e1 e2) h11
        · omega
      · exact .inl (by omega)
    have e := sortU_one ltP_trn ltP_as ltP_tot mem srt
    rw [e] at h9
    have q2 : VRes G T (upd H a (SetTO X.prog X.w a L)) (.lst ((sortU ltP ns).map ofPair)) Q := fun v H' sm r => q v H' ((same_new ha).trans sm) r
    exact q2.lst dom2 h9.rep c hc
end
end Pk
end
section
-- PkSet3
set_option linter.all false
set_option maxRecDepth 100000
/-! sorted(set(l)), l a list of texts. -/
namespace Pk
open PySem PySem.Spec PyProof.Rows L2
/-- a row's text -/
def keyS (r : Int × Value) : PySem.Str := match r.2 with
  | .str z _ => z
  | _ => PySem.Str.empty
def GoodS (w : World) (r : Int × Value) : Prop := ∃ z tk, r.2 = Value.str z tk ∧ r.1 = PySem.hashStr w z
/-- the set of texts at a: M its members; its table can be walked -/
def SetS (w : World) (h : Heap) (a : Addr) (M : PySem.Str → Bool) (n : Nat) : Prop :=
  ∃ ob rs epo tb, h.get? a = some ob ∧ ob.ExactSet ∧ ob.data = .set rs epo tb ∧ (∀ r ∈ rs.toList, GoodS w r) ∧ (rs.toList.map keyS).Nodup ∧ (∀ z, M z = true ↔ z ∈ rs.toList.map keyS) ∧
    rs.size < scanBound ∧ tb.fits rs.size = true ∧ rs.size = n ∧ Ris tb.place.toList ∧ (w.params.followText "set-order" = true ∨ tb.led = true)
section
variable {P : Program} {w : World} {h h' : Heap} {a : Addr} {M : PySem.Str → Bool} {n : Nat}
theorem SetS.at (F : SetS w h a M n) (k : ∀ ob, h.get? a = some ob → h'.get? a = some ob) : SetS w h' a M n := by
  obtain ⟨ob, rs, epo, tb, hob, rest⟩ := F
  exact ⟨ob, rs, epo, tb, k ob hob, rest⟩
theorem SetS.congr {M' : PySem.Str → Bool} (F : SetS w h a M n) (e : ∀ z, M' z = M z) : SetS w h a M' n := by
  rw [show M' = M from funext e]
  exact F
theorem isS (z : PySem.Str) (tk : Tok) : (PySem.strKind P w).is z (.str z tk) = true := PySem.strKind_is P w z tk
theorem goodS_elems {l : List (Int × Value)} (g : ∀ r ∈ l, GoodS w r) : ElemsOf (PySem.strKind P w) l := fun r hr => by
  obtain ⟨z, tk, h1, h2⟩ := g r hr
  exact ⟨⟨z, by rw [h1]; exact isS z tk, h2⟩, by rw [h1]; rfl⟩
theorem goodS_is {r : Int × Value} (g : GoodS w r) (z : PySem.Str) : (PySem.strKind P w).is z r.2 = true ↔ keyS r = z := by
  obtain ⟨y, tk, h1, _⟩ := g
  unfold keyS
  rw [h1]
  exact ⟨fun h => (PySem.strKind P w).inj (.str y tk) y z (isS y tk) h, fun h => by rw [show y = z from h]; exact isS z tk⟩
theorem goodS_mem {l : List (Int × Value)} (g : ∀ r ∈ l, GoodS w r) (z : PySem.Str) : z ∈ l.map keyS ↔ ∃ r ∈ l, (PySem.strKind P w).is z r.2 = true := by
  rw [List.mem_map]
  exact ⟨fun ⟨r, hr, q⟩ => ⟨r, hr, (goodS_is (g r hr) z).mpr q⟩, fun ⟨r, hr, q⟩ => ⟨r, hr, (goodS_is (P := P) (g r hr) z).mp q⟩⟩
end
section
variable {P : Program} {w : World} {A : Around} {E : Value → Shared → Prop} {s : Shared} {a : Addr} {M : PySem.Str → Bool} {n : Nat}
theorem setS_tail {gw : Bool → Sem Unit} (hgw : ∀ (b : Bool) (s1 : Shared) (Q1 : Unit → Shared → Prop), Q1 () s1 → wpAny (model P w) A (gw b) Q1 E s1)
    {ob : Obj} {rs : Array (Int × Value)} {epo : Nat} {tb : SetTable} (hob : s.heap.get? a = some ob) (hxs : ob.ExactSet) (hdt : ob.data = .set rs epo tb)
    {rs1 : Array (Int × Value)} {tb2 : SetTable} {M' : PySem.Str → Bool} (g1 : ∀ r ∈ rs1.toList, GoodS w r) (nd1 : (rs1.toList.map keyS).Nodup) (m1 : ∀ z, M' z = true ↔ z ∈ rs1.toList.map keyS)
    (b1 : rs1.size < scanBound) (f2 : tb2.fits rs1.size = true) (ri : Ris tb2.place.toList) (le : w.params.followText "set-order" = true ∨ tb2.led = true) {wasD : Bool} {R : Option Bool → Shared → Prop}
    (hR : ∀ h', Heap.SameBut a s.heap h' → SetS w h' a M' rs1.size → R (some true) { s with heap := h' }) :
    wpAny (model P w) A (do
        storeSet a rs1 tb2
        if (!wasD && tb2.tooFull) = true then do
            gw (relayAll tb2 rs1 (SetTable.grown rs1.size)).2.2
            storeSet a (relayAll tb2 rs1 (SetTable.grown rs1.size)).1 (relayAll tb2 rs1 (SetTable.grown rs1.size)).2.1
            pure (some true)
          else pure (some true)) R E s := by
  refine wpAny_bind (wpAny_storeSet_of hob hdt ?_ (fits_of_scanBound b1))
  have hob1 := L2.store_at (es' := rs1) (t' := tb2) hob hdt
  have sb1 := Heap.SameBut.update s.heap a (Obj.putSet rs1 tb2)
  split
  · have c1 := relayAll_perm tb2 rs1 (SetTable.grown rs1.size)
    have c2 := relayAll_fits tb2 rs1 (SetTable.grown rs1.size)
    have c3 := L2.relayAll_ris tb2 rs1 (SetTable.grown rs1.size)
    have c4 := L2.relayAll_led tb2 rs1 (SetTable.grown rs1.size)
    generalize relayAll tb2 rs1 (SetTable.grown rs1.size) = Z at c1 c2 c3 c4 ⊢
    obtain ⟨rs2, tb3, gv⟩ := Z
    dsimp only at c1 c2 c3 c4 ⊢
    have sz : rs2.size = rs1.size := by rw [← Array.length_toList, c1.length_eq, Array.length_toList]
    have b2 : rs2.size < scanBound := by rw [sz]; exact b1
    refine wpAny_bind (hgw _ _ _ ?_)
    refine wpAny_bind (wpAny_storeSet_of hob1 rfl ?_ (fits_of_scanBound b2))
    have hob2 := L2.store_at (es' := rs2) (t' := tb3) hob1 rfl
    refine wpAny_pure (hR _ (sb1.trans (Heap.SameBut.update _ a _)) ?_)
    exact ⟨_, rs2, _, tb3, hob2, hxs, rfl, fun r hr => g1 r (c1.mem_iff.mp hr), (c1.map keyS).nodup_iff.mpr nd1, fun z => (m1 z).trans (c1.map keyS).mem_iff.symm, b2, c2, sz, c3,
      le.imp id fun z => by rw [c4]; exact z⟩
  · exact wpAny_pure (hR _ sb1 ⟨_, rs1, _, tb2, hob1, hxs, rfl, g1, nd1, m1, b1, f2, rfl, ri, le⟩)
theorem setS_add {z : PySem.Str} {tk : Tok} {Q : Bool → Shared → Prop} (F : SetS w s.heap a M n) (room : n + 1 < scanBound)
    (hQ : ∀ h', Heap.SameBut a s.heap h' → SetS w h' a (fun j => M j || decide (j = z)) (if M z = true then n else n + 1) → Q (!M z) { s with heap := h' }) :
    wpAny (model P w) A (setAddHashed a (.str z tk) ((PySem.strKind P w).hash z)) Q E s := by
  obtain ⟨ob, rs, epo, tb, hob, hxs, hdt, g, nd, hm, hb, hf, hn, ri, le⟩ := F
  have hkey : (PySem.strKind P w).is z (.str z tk) = true := isS z tk
  have hsc : (Value.str z tk).scannable = true := rfl
  have hel : ElemsOf (PySem.strKind P w) rs.toList := goodS_elems g
  unfold setAddHashed
  unfold setAddHashedIn
  refine wpAny_holding (wpAny_bind (wpAny_setState_of hob hdt hf ?_))
  dsimp only
  rw [byScan_of hsc hb hel]
  simp only [↓reduceIte]
  unfold setAddByScan
  refine wpAny_bind (wpAny_bind (wpAny_rule (wpAny_bind (wpAny_setScan_of hkey hob hdt hf hel ?_))))
  cases hfi : List.findIdx? (fun r => (PySem.strKind P w).is z r.2) rs.toList with
  | some j =>
    dsimp only
    obtain ⟨hj, pj, _⟩ := List.findIdx?_eq_some_iff_getElem.mp hfi
    have hMz : M z = true := (hm z).mpr ((goodS_mem (P := P) (w := w) g z).mpr ⟨rs.toList[j], List.getElem_mem hj, pj⟩)
    refine wpAny_pure (wpAny_pure ?_)
    have q := hQ s.heap (Heap.SameBut.refl a s.heap) ⟨ob, rs, epo, tb, hob, hxs, hdt, g, nd, fun i => by
      rw [Bool.or_eq_true, decide_eq_true_eq, ← hm i]
      exact ⟨fun y => y.elim id (fun e => e ▸ hMz), .inl⟩, hb, hf, by rw [if_pos hMz]; exact hn, ri, le⟩
    rw [hMz] at q
    exact q
  | none =>
    dsimp only
    have hnk : z ∉ rs.toList.map keyS := fun y => by
      obtain ⟨r, hr, q⟩ := (goodS_mem (P := P) (w := w) g z).mp y
      have c := List.findIdx?_eq_none_iff.mp hfi r hr
      rw [q] at c
      cases c
    have hMz : M z = false := by
      cases q : M z with
      | false => rfl
      | true => exact absurd ((hm z).mp q) hnk
    have hgw : ∀ (b : Bool) {s1 : Shared} {Q1 : Unit → Shared → Prop}, Q1 () s1 → wpAny (model P w) A (match b with | true => rule "set.scan.the-table-gave-way" | false => pure ()) Q1 E s1 :=
      fun b s1 Q1 q => by cases b <;> first | exact wpAny_pure q | exact wpAny_rule q
    have c1 := layNew_perm tb rs ((PySem.strKind P w).hash z) (.str z tk)
    have c2 := layNew_fits tb rs ((PySem.strKind P w).hash z) (.str z tk)
    have c3 := L2.layNew_ris tb rs ((PySem.strKind P w).hash z) (.str z tk) ri
    have c4 := L2.layNew_led tb rs ((PySem.strKind P w).hash z) (.str z tk)
    generalize layNew tb rs ((PySem.strKind P w).hash z) (.str z tk) = Z at c1 c2 c3 c4 ⊢
    obtain ⟨rs1, tb1, wasD, gv⟩ := Z
    dsimp only at c1 c2 c3 c4 ⊢
    rw [Array.toList_push] at c1
    have pc : rs1.toList.Perm (((PySem.strKind P w).hash z, Value.str z tk) :: rs.toList) := c1.trans (List.perm_append_singleton _ _)
    have pk : (rs1.toList.map keyS).Perm (z :: rs.toList.map keyS) := pc.map keyS
    have g1 : ∀ r ∈ rs1.toList, GoodS w r := fun r hr => by
      rcases List.mem_cons.mp (pc.mem_iff.mp hr) with y | y
      · rw [y]; exact ⟨z, tk, rfl, rfl⟩
      · exact g r y
    have nd1 : (rs1.toList.map keyS).Nodup := pk.nodup_iff.mpr (List.nodup_cons.mpr ⟨hnk, nd⟩)
    have m1 : ∀ i, (M i || decide (i = z)) = true ↔ i ∈ rs1.toList.map keyS := fun i => by
      rw [Bool.or_eq_true, decide_eq_true_eq, hm i, pk.mem_iff, List.mem_cons]
      exact Or.comm
    have sz : rs1.size = n + 1 := by rw [← Array.length_toList, pc.length_eq, List.length_cons, Array.length_toList, hn]
    have b1 : rs1.size < scanBound := by rw [sz]; exact room
    have le1 : w.params.followText "set-order" = true ∨ tb1.led = true := le.imp id fun y => by rw [c4]; exact y
    have fin : ∀ h', Heap.SameBut a s.heap h' → SetS w h' a (fun j => M j || decide (j = z)) rs1.size → Q true { s with heap := h' } := fun h' sb r => by
      have q := hQ h' sb
      rw [hMz] at q
      rw [sz] at r
      exact q r
    refine wpAny_bind (hgw _ ?_)
    split
    · refine wpAny_bind ?_
      rw [hashByValue_scannable 8 hsc]
      refine wpAny_pure ?_
      refine setS_tail ?_ hob hxs hdt g1 nd1 m1 b1 ?_ ?_ ?_ ?_
      · intro b s1 Q1 q; cases b <;> first | exact wpAny_pure q | exact wpAny_rule q
      · first | (split <;> first | exact c2 | exact SetTable.fits_plain_off c2) | exact c2
      · first | (split <;> exact c3) | exact c3
      · first | (split <;> exact le1) | exact le1
      · intro h' sb r; dsimp only; exact wpAny_pure (fin h' sb r)
    · refine wpAny_bind (wpAny_pure ?_)
      simp only [↓reduceIte]
      refine setS_tail ?_ hob hxs hdt g1 nd1 m1 b1 c2 c3 le1 ?_
      · intro b s1 Q1 q; cases b <;> first | exact wpAny_pure q | exact wpAny_rule q
      · intro h' sb r; dsimp only; exact wpAny_pure (fin h' sb r)
theorem setS_fresh {h : Heap} {xs : List PySem.Str} (hob : h.get? a = some (newSet w)) : SetS w h a (fun j => decide (j ∈ xs.take 0)) 0 := by
  refine ⟨_, #[], 0, _, hob, ⟨rfl, rfl, rfl⟩, rfl, (fun r hr => by simp at hr), (by simp), (fun z => by simp), (by decide), (by rfl), rfl, List.Pairwise.nil, ?_⟩
  show _ ∨ (!w.params.followText "set-order") = true
  cases w.params.followText "set-order" with
  | true => exact .inl rfl
  | false => exact .inr rfl
/-- the update's loop -/
theorem strs_loop {I : Addr} {fp wr : List Addr} {G : Array GenState → Array GenState → Prop} {n : Nat} {Pv : Nat → Value → Prop} {St : Nat → Shared → Prop} {R : Result → Shared → Prop}
    (W : WalksS P w A.in1 I fp wr G n Pv St) (S : Addr) (nS : S ∉ fp) (xs : List PySem.Str) (hn : n = xs.length) (hb : xs.length + 1 < scanBound) (hv : ∀ i v, Pv i v → ∃ z t, xs[i]? = some z ∧ v = .str z t) :
    ∀ (k i : Nat) (s : Shared), n - i = k → i ≤ n → St i s → (∃ c, c ≤ i ∧ SetS w s.heap S (fun j => decide (j ∈ xs.take i)) c) →
      (∀ s' c, Moved (S :: wr) G s s' → c ≤ n → SetS w s'.heap S (fun j => decide (j ∈ xs)) c → R (.ok (.ret .none)) s') →
      codeAny (model P w) A (.builtin "set.update.loop" ⟨[.ref S, .ref I], []⟩) R s := by
  have wS : S ∉ wr := fun h => nS (W.sub _ h)
  have inn : ∀ b ∈ wr, b ∈ S :: wr := fun b q => List.mem_cons_of_mem _ q
  intro k
  induction k with
  | zero =>
    intro i s hk hi st ⟨c, hc, F⟩ hR
    have e0 : i = n := by omega
    subst e0
    refine codeAny_builtin PyProof.Rows.F.entry_set_update_loop ?_
    rw [Around.under_plainId PyProof.Rows.F.plain_set_update_loop _]
    show wpAny _ A.in1 (pyNext (.ref I) >>= _) _ _ s
    refine wpAny_bind (W.done s _ _ st fun s2 mv => ?_)
    show wpAny _ A.in1 (ret Value.none) _ _ s2
    have e : xs.take i = xs := List.take_of_length_le (by omega)
    rw [e] at F
    exact wpAny_pure (hR s2 c (mv.mono inn) hc (F.at fun o q => mv.heap S o wS q))
  | succ k ih =>
    intro i s hk hi st ⟨c, hc, F⟩ hR
    have lt : i < n := by omega
    refine codeAny_builtin PyProof.Rows.F.entry_set_update_loop ?_
    rw [Around.under_plainId PyProof.Rows.F.plain_set_update_loop _]
    show wpAny _ A.in1 (pyNext (.ref I) >>= _) _ _ s
    refine wpAny_bind (W.item i s _ _ lt st fun v s2 pv st2 mv => ?_)
    obtain ⟨z, t, hz, rfl⟩ := hv i v pv
    have F2 : SetS w s2.heap S (fun j => decide (j ∈ xs.take i)) c := F.at fun o q => mv.heap S o wS q
    show wpAny _ A.in1 (holding [Value.str z t] (setAdd S (.str z t)) >>= _) _ _ s2
    refine wpAny_bind (wpAny_holding ?_)
    unfold setAdd
    refine wpAny_holding (wpAny_bind ((PySem.strKind P w).pyHash (k := z) (isS z t) ?_))
    refine setS_add (s := { s2 with toks := s2.toks + 1 }) F2 (by omega) fun h2 sb F3 => ?_
    have F4 : SetS w h2 S (fun j => decide (j ∈ xs.take (i + 1))) (if decide (z ∈ xs.take i) = true then c else c + 1) := F3.congr fun j => by
      rw [List.take_add_one, hz]
      simp [List.mem_append]
    have hc4 : (if decide (z ∈ xs.take i) = true then c else c + 1) ≤ i + 1 := by
      split <;> omega
    refine wpAny_pure ⟨plainId_quiet PyProof.Rows.F.plain_set_update_loop _, ih (i + 1) _ (by omega) lt (W.frame _ s2 _ _ st2 (Nat.le_succ _) fun b q o e => ?_) ⟨_, hc4, F4⟩ fun s3 c3 mv3 hc3 F5 => ?_⟩
    · rw [sb.2 b fun r : b = S => nS (by rw [← r]; exact q)]
      exact e
    · refine hR s3 c3 (Moved.trans W.gtrans ((mv.mono inn).then_heap (Nat.le_succ _) fun b o q e => ?_) mv3) hc3 F5
      rw [sb.2 b fun r : b = S => q (by rw [r]; exact List.mem_cons_self)]
      exact e
end
end Pk
end
section
-- PkSet4
set_option linter.all false
set_option maxRecDepth 100000
/-! sorted(set(l)), both kinds. -/
namespace Pk
open PySem PySem.Spec PyProof.Rows L2
section
variable {P : Program} {w : World} {A : Around} {E : Value → Shared → Prop} {s : Shared}
theorem strs_of_list {l : Addr} {its : Array Value} {xs : List PySem.Str} {Q : Value → Shared → Prop} (hh : A.handled = none) (hl : s.heap.IsList l its) (hit : PyProof.Rows.StrsAre its.toList xs) (hb : xs.length + 1 < scanBound)
    (fin : ∀ (h' : Heap) (tk c : Nat), SetS w h' s.heap.objs.size (fun j => decide (j ∈ xs)) c → c ≤ xs.length → (∀ b o, s.heap.get? b = some o → h'.get? b = some o) → Q (.ref s.heap.objs.size) { s with heap := h', toks := tk }) :
    wpAny (model P w) A (call (.type "set") [.ref l]) Q E s := by
  have sz : its.size = xs.length := by
    have q := PyProof.Rows.StrsAre.length hit
    rw [Array.length_toList] at q
    exact q
  have lS : l < s.heap.objs.size := by
    obtain ⟨o, ho, _⟩ := hl
    exact Heap.lt_size ho
  have z1 : (s.heap.push (newSet w)).objs.size = s.heap.objs.size + 1 := Heap.size_push ..
  refine set_of_list (W := fun h' _ => ∃ c, SetS w h' s.heap.objs.size (fun j => decide (j ∈ xs)) c ∧ c ≤ xs.length ∧ ∀ b o, s.heap.get? b = some o → h'.get? b = some o) hl (fun B R hB hU hR => ?_) fun h' tk ⟨c, h1, h2, h3⟩ => fin h' tk c h1 h2 h3
  have isl : (s.heap.push (newSet w)).IsList l its := by
    obtain ⟨o, ho, r⟩ := hl
    exact ⟨o, Heap.get?_push_of_some _ ho, r⟩
  have nI : l ≠ (s.heap.push (newSet w)).objs.size := by rw [z1]; exact Nat.ne_of_lt (Nat.lt_succ_of_lt lS)
  have nS : s.heap.objs.size ∉ [(s.heap.push (newSet w)).objs.size, l] := by
    rw [z1]
    simp only [List.mem_cons, List.not_mem_nil, or_false, not_or]
    exact ⟨Nat.ne_of_lt (Nat.lt_succ_self _), Nat.ne_of_gt lS⟩
  have hv : ∀ (i : Nat) (v : Value), its[i]? = some v → ∃ z t, xs[i]? = some z ∧ v = .str z t := fun i v h => by
    have hi : i < xs.length := by rw [← sz]; exact (Array.getElem?_eq_some_iff.mp h).1
    obtain ⟨t, e⟩ := SS.strs_at hit i v (by rw [Array.getElem?_toList]; exact h)
    refine ⟨xs[i], t, List.getElem?_eq_getElem hi, ?_⟩
    rw [e, List.getD_eq_getElem?_getD, List.getElem?_eq_getElem hi]
    rfl
  have hBh : B.in1.handled = none := hB hh
  refine strs_loop ((Walks.list hBh _ l nI its).toS) s.heap.objs.size nS xs sz hb hv (its.size - 0) 0 _ (by omega) (Nat.zero_le _) ⟨⟨_, Heap.get?_push_size _ rfl, rfl, rfl⟩, ?c1⟩ ⟨0, Nat.le_refl 0, setS_fresh (Heap.get?_push_of_some _ (Heap.get?_push_size _ rfl))⟩ ?c2
  case c1 =>
    obtain ⟨o, ho, r⟩ := isl
    exact ⟨o, Heap.get?_push_of_some _ ho, r⟩
  case c2 =>
    intro s2 c hm hc F2
    obtain ⟨h2, g2, d2, k2, o2⟩ := s2
    have e1 : g2 = s.gens := hm.gens
    have e2 : d2 = s.drawn := hm.drawn
    have e3 : o2 = s.os := hm.os
    subst e1 e2 e3
    rw [sz] at hc
    refine hR h2 k2 ⟨c, F2, hc, fun b o e => ?_⟩
    have lb : b < s.heap.objs.size := Heap.lt_size e
    refine hm.heap b o ?_ (Heap.get?_push_of_some _ (Heap.get?_push_of_some _ e))
    rw [z1]
    simp only [List.mem_cons, List.not_mem_nil, or_false, not_or]
    exact ⟨Nat.ne_of_lt lb, Nat.ne_of_lt (Nat.lt_succ_of_lt lb)⟩
theorem strs_of {vs : List Value} (h : ∀ v ∈ vs, ∃ z tk, v = Value.str z tk) : PyProof.Rows.StrsAre vs (vs.map fun v => keyS (0, v)) := by
  induction vs with
  | nil => exact .nil
  | cons v vs ih =>
    obtain ⟨z, tk, rfl⟩ := h v List.mem_cons_self
    exact .cons z tk (ih fun u hu => h u (List.mem_cons_of_mem _ hu))
theorem sorted_setS {a : Addr} {M : PySem.Str → Bool} {n : Nat} {Q : Value → Shared → Prop} (F2 : SetS w s.heap a M n) (hh : A.handled = none) (h64 : n < 64)
    (hQ : ∀ s' p (out : Array Value) (c : Nat) (ys : List PySem.Str), (∀ b o, s.heap.get? b = some o → s'.heap.get? b = some o) → s'.gens = s.gens → s'.os = s.os → s.heap.objs.size ≤ p →
      s'.heap.get? p = some (seqObj "list" out c) → PyProof.Rows.StrsAre out.toList ys → sortedS ys = true → ys.Nodup → (∀ z, z ∈ ys ↔ M z = true) → ys.length = n → Q (.ref p) s') :
    wpAny (model P w) A (call (.builtin "sorted") [.ref a]) Q E s := by
  obtain ⟨ob, rs, epo, tb, hob, hxs, hdt, g, nd, hm, hb, hf, hn, ri, le⟩ := F2
  refine Calls.call_function_entry kind_sorted plain_sorted entry_sorted (args_sorted1 _) ?_
  unfold Builtin.«sorted»
  refine wpAny_bind (m := checkCount "sorted" 1 1 _) (wpAny_pure ?_)
  refine wpAny_bind (L2.collect_set (A := A.in1) hh ⟨ob, hob, hxs.1, hdt⟩ hf hb ri le fun s1 vs k1 hz g1 o1 pm => ?_)
  have hvl : vs.length = n := by rw [pm.length_eq, List.length_map, Array.length_toList]; exact hn
  have hI : PyProof.Rows.StrsAre vs (vs.map fun v => keyS (0, v)) := strs_of fun v hv => by
    obtain ⟨r, hr, q⟩ := List.mem_map.mp (pm.mem_iff.mp hv)
    obtain ⟨z, tk, e1, _⟩ := g r hr
    exact ⟨z, tk, by rw [← q]; exact e1⟩
  have pk : (vs.map fun v => keyS (0, v)).Perm (rs.toList.map keyS) := by
    have q := pm.map fun v => keyS (0, v)
    rw [List.map_map] at q
    exact q
  refine wpAny_bind (wpAny_newList ?_ (by rw [hvl, sizeLine_eq]; omega))
  have atL : (s1.heap.push (seqObj "list" vs.toArray 0)).get? s1.heap.objs.size = some (seqObj "list" vs.toArray 0) := Heap.get?_push_size _ rfl
  refine wpAny_bind (wpAny_holding (wpAny_call_entry slot_list_sort ⟨_, atL, rfl⟩ entry_list_sort (list_sort_treeK strKind_oneLt atL hI.keysOf (fun v1 v2 rest e => keyKind_strs (by rw [← e]; exact hI)) (by rw [hvl]; exact h64) fun st hp hs => ?_) (args_list_sort _)))
  obtain ⟨ys, b1, b2, b3⟩ := sorted_out_str hI hp hs
  refine ⟨_, rfl, ?_⟩
  obtain ⟨c, hc⟩ := sortedHeap_at (vs := vs) (out := (arrOf st).map (·.2)) atL
  have pn : ys.Perm (rs.toList.map keyS) := b2.trans pk
  refine wpAny_pure ⟨_, rfl, hQ _ s1.heap.objs.size _ c ys (fun b u e => ?_) g1 o1 hz hc b1 b3 (pn.nodup_iff.mpr nd) (fun z => by rw [pn.mem_iff, ← hm z]) ?_⟩
  · have q := k1 b u e
    have lt := Heap.lt_size q
    show (sortedHeap (s1.heap.push (seqObj "list" vs.toArray 0)) s1.heap.objs.size vs _).get? b = some u
    rw [sortedHeap_old (Nat.ne_of_lt lt) (by rw [size_push']; exact Nat.lt_succ_of_lt lt)]
    exact Heap.get?_push_of_some _ q
  · rw [pn.length_eq, List.length_map, Array.length_toList]; exact hn
end
/-- the set of texts at a -/
def SetSO (w : World) (a : Addr) (M : PySem.Str → Bool) (n : Nat) : HO := .ext fun h => SetS w h a M n
theorem setSO_new {w : World} {P : Program} {H : Hp} {h : Heap} {a : Addr} {M : PySem.Str → Bool} {n : Nat} (F : SetS w h a M n) : ObjOk P w H h a (SetSO w a M n) := by
  refine ⟨F, ?_, fun h1 h2 f1 k => f1.at k⟩
  obtain ⟨ob, _, _, _, e, _⟩ := F
  exact ⟨ob, e⟩
section
variable {G : Gx} {cl : Cl} {k : Nat} {sc : Scope} {N : List PySem.Str} {X : Cx}
def rSetL1 (K : PySem.W.Frag) (w : World) : List V → Hp → VK → Prop := fun xs H Q => ∃ (l : Addr) (ys : List PySem.Str), xs = [V.ref l] ∧ SqL K H l (ys.map V.str) ∧ ys.length < 64 ∧ ∀ a c, H a = none → c ≤ ys.length → Q (.ref a) (upd H a (SetSO w a (fun j => decide (j ∈ ys)) c))
theorem cr_setL1 (hc : X.calm = true) : CallR X (.type "set") (rSetL1 X.K X.w) := by
  intro pins s σ H xs us Q I r h
  obtain ⟨l, ys, rfl, hl, hf, q⟩ := h
  rw [Vals.ref1 r]
  obtain ⟨its, rv, pl, hz⟩ := I.list hl
  have hn : H s.heap.objs.size = none := I.hok.fresh (Nat.le_refl _)
  refine strs_of_list (P := X.prog) (w := X.w) (xs := ys) (I.ok.hd hc) pl.isList (by rw [List.toList_toArray]; exact rv.strs) (by unfold scanBound; omega) fun h' tk c F2 hc kp => ?_
  exact ⟨.ref s.heap.objs.size, _, I.laid (t' := tk) kp (Nat.le_refl _) (setSO_new F2), rfl, q _ c hn hc⟩
def rSortL1 (w : World) : List V → Hp → VK → Prop := fun vs H Q => ∃ (a : Addr) (M : PySem.Str → Bool) (n : Nat), vs = [V.ref a] ∧ H a = some (SetSO w a M n) ∧ n < 64 ∧
  ∀ (ys : List PySem.Str) (p : Addr), sortedS ys = true → ys.Nodup → (∀ z, z ∈ ys ↔ M z = true) → H p = none → Q (.ref p) (upd H p (.lst (ys.map V.str)))
theorem cr_sortL1 (hc : X.calm = true) : CallR X (.builtin "sorted") (rSortL1 X.w) := by
  intro pins s σ H vs us Q I r h
  obtain ⟨a, M, n, rfl, ha, h64, q⟩ := h
  have F2 : SetS X.w s.heap a M n := (I.hok a _ ha).1
  rw [Vals.ref1 r]
  refine sorted_setS F2 (I.ok.hd hc) h64 fun s2 p out c ys kp g o hp hg hi hs nd hm hl => ?_
  have hlen : (ys.map V.str).length ≤ sizeLine := by rw [List.length_map, hl, sizeLine_eq]; omega
  have hn : H p = none := I.hok.fresh hp
  have J : L2.Inv X pins σ (upd H p (.lst (ys.map V.str))) { s with heap := s2.heap, gens := s2.gens, drawn := s2.drawn, toks := s2.toks } :=
    I.call (ch := []) (Un.laid kp hp hn) (I.hok.laid kp hp ⟨hlen, out.toList, c, vals_of_strs hi, hg⟩) (by rw [g]; exact I.bare) (fun _ z => nomatch z)
  have e : s2 = { s with heap := s2.heap, gens := s2.gens, drawn := s2.drawn, toks := s2.toks } := by
    cases s2
    cases s
    cases o
    rfl
  rw [e]
  exact ⟨.ref p, _, J, rfl, q ys p hs nd hm hn⟩
theorem ssetL_run (C : Ctx G X) {H : Hp} {Q : VK} {T : Addr → Prop} {l : List D} {ns : List (List Nat)} {x : V} (hT : Dom T H) (hx : Rep G (wo H T) (.lst l) x) (hl : l.length < 64) (hn : asStrs l = some ns) (q : VRes G T H (.lst ((sortU ltS ns).map .str)) Q) :
    rSetL1 X.K X.w [x] H (fun y H1 => rSortL1 X.w [y] H1 Q) := by
  unfold Rep at hx
  obtain ⟨b, vs, rfl, h1, h2⟩ := hx
  have hlen := h2.len
  obtain ⟨rfl, _⟩ := h2.asStrs hn
  rw [List.length_map, List.length_map] at hlen
  refine ⟨b, ns.map fun x => ⟨x.toArray⟩, rfl, .of ((wo_same H T) _ _ h1), by rw [List.length_map]; omega, fun a c ha hc => ?_⟩
  rw [List.length_map] at hc
  refine ⟨a, _, c, rfl, upd_same, by omega, fun ys p hs nd hm hp => ?_⟩
  have inj : ∀ u v : List Nat, (⟨u.toArray⟩ : PySem.Str) = ⟨v.toArray⟩ → u = v := fun u v e => by
    have := congrArg (fun y : PySem.Str => y.cps.toList) e
    simpa using this
  have mem : ∀ y, y ∈ ys.map strL ↔ y ∈ ns := fun y => by
    have m1 : y ∈ ys.map strL ↔ (⟨y.toArray⟩ : PySem.Str) ∈ ys := by
      rw [List.mem_map]
      constructor
      · rintro ⟨z, hz, rfl⟩
        have e : (⟨(strL z).toArray⟩ : PySem.Str) = z := by simp [strL]
        rw [e]
        exact hz
      · exact fun h => ⟨_, h, by simp [strL]⟩
    rw [m1, hm]
    simp only [decide_eq_true_eq, List.mem_map]
    exact ⟨fun ⟨z, hz, e⟩ => by rw [← inj _ _ e]; exact hz, fun h => ⟨y, h, rfl⟩⟩
  have srt : (ys.map strL).Pairwise (fun a b => ltS a b = true) := by
    have p1 : (ys.map strL).Pairwise (fun a b => ltS b a = false) := by
      rw [List.pairwise_map]
      cases ys with
      | nil => exact List.Pairwise.nil
      | cons y r => exact rising_pair y r hs
    have p2 : (ys.map strL).Nodup := by
      refine List.pairwise_map.mpr (nd.imp fun {u v} hne e => hne ?_)
      have e2 := congrArg (fun l : List Nat => (⟨l.toArray⟩ : PySem.Str)) e
      have e3 : u.cps = v.cps := by simpa [strL] using e2
      cases u
      cases v
      cases e3
      rfl
    exact (p1.and p2).imp fun {u v} h => by
      cases d : ltS u v with
      | true => rfl
      | false => exact absurd (ltS_tot u v d h.1) h.2
  have e := sortU_one ltS_trn ltS_as ltS_tot mem srt
  have e2 : ys.map V.str = (sortU ltS ns).map fun l => V.str ⟨l.toArray⟩ := by
    rw [← e, List.map_map]
    refine List.map_congr_left fun y _ => ?_
    simp [strL]
  rw [e2]
  have dom2 : Dom T (upd H a (SetSO X.w a (fun j => decide (j ∈ ns.map fun x => (⟨x.toArray⟩ : PySem.Str))) c)) := fun d hd e => by
    by_cases z : d = a
    · rw [z, upd_same] at e
      cases e
    · rw [upd_ne z] at e
      exact hT d hd e
  have q2 : VRes G T (upd H a (SetSO X.w a (fun j => decide (j ∈ ns.map fun x => (⟨x.toArray⟩ : PySem.Str))) c)) (.lst ((sortU ltS ns).map .str)) Q := fun v H' sm r => q v H' ((same_new ha).trans sm) r
  exact q2.lst dom2 (RepL.strs _) p hp
theorem s_sset (g : Gd G cl k sc N X) {a : ME} {A : Expr} {p1 p2 q1 q2 : Pos} (h : glC sc "sorted" = true) (h' : glC sc "set" = true) (hp : plainA A = true) (ha : PE X A (wd G cl a)) :
    PE X (.Call (.Name "sorted" p1) [.Call (.Name "set" p2) [A] [] q2] [] q1) (wd G cl (.sset a)) := by
  obtain ⟨h1, h2⟩ := gl_of g h
  obtain ⟨h3, h4⟩ := gl_of g h'
  have hu : X.A.units + 65 < cLine := g.C.hu
  have sT := pe_callTy (pos := q2) (p := p2) (cr_setTT g.C.calm hu) h3 (bl_none g (by decide)) PyProof.Rows.boot_set (one_pa hp ha) (by decide) h4 (plain_star hp)
  have sL := pe_callTy (pos := q2) (p := p2) (cr_setL1 g.C.calm) h3 (bl_none g (by decide)) PyProof.Rows.boot_set (one_pa hp ha) (by decide) h4 (plain_star hp)
  have oT := pe_callB (pos := q1) (p := p1) (cr_sortedT g.C.calm) h1 (bl_none g (by decide)) PyProof.Rows.boot_sorted (one_pa rfl sT) (by decide) h2 (plain_star rfl)
  have oL := pe_callB (pos := q1) (p := p1) (cr_sortL1 g.C.calm) h1 (bl_none g (by decide)) PyProof.Rows.boot_sorted (one_pa rfl sL) (by decide) h2 (plain_star rfl)
  refine PE.imp (PE.or oT oL) fun σ H Q ⟨S, ρ, s, d, s', n, e, q⟩ => ?_
  obtain ⟨x, e1, ez⟩ := inv_sset e
  rcases set_cases ez with ⟨l, ns, rfl, hl, hn, rfl⟩ | ⟨l, ns, rfl, hl, hn, hb, rfl⟩
  · exact .inr ⟨S, ρ, s, _, s', n, e1, fun v H1 f1 h1 r1 => ssetL_run g.C (n.fr f1 h1).env.domT r1 hl hn ((q.fr f1).res h1)⟩
  · exact .inl ⟨S, ρ, s, _, s', n, e1, fun v H1 f1 h1 r1 => ssetT_run g.C (n.fr f1 h1).env.domT r1 hl hn hb ((q.fr f1).res h1)⟩
theorem rest_all (G : Gx) (k : Nat) (N : List PySem.Str) : Rest G (callN k) k N := ⟨fun g h h' hp ha => s_sset g h h' hp ha, fun g h hp hq ha hb => s_zip g h hp hq ha hb⟩
end
end Pk
end
section
-- PuBase
set_option linter.all false
set_option maxRecDepth 10000
/-! The mini language run by hand: simp rules, loops, comparisons. -/
namespace Pk
open PySem
@[simp] def zz_evE_1 := @evE.eq_1
@[simp] def zz_evE_2 := @evE.eq_2
@[simp] def zz_evE_3 := @evE.eq_3
@[simp] def zz_evE_4 := @evE.eq_4
@[simp] def zz_evE_5 := @evE.eq_5
@[simp] def zz_evE_6 := @evE.eq_6
@[simp] def zz_evE_7 := @evE.eq_7
@[simp] def zz_evE_8 := @evE.eq_8
@[simp] def zz_evE_9 := @evE.eq_9
@[simp] def zz_evE_10 := @evE.eq_10
@[simp] def zz_evE_11 := @evE.eq_11
@[simp] def zz_evE_12 := @evE.eq_12
@[simp] def zz_evE_13 := @evE.eq_13
@[simp] def zz_evE_14 := @evE.eq_14
@[simp] def zz_evE_15 := @evE.eq_15
@[simp] def zz_evE_16 := @evE.eq_16
@[simp] def zz_evE_17 := @evE.eq_17
@[simp] def zz_evE_18 := @evE.eq_18
@[simp] def zz_evE_19 := @evE.eq_19
@[simp] def zz_evE_20 := @evE.eq_20
@[simp] def zz_evE_21 := @evE.eq_21
@[simp] def zz_evE_22 := @evE.eq_22
@[simp] def zz_evE_23 := @evE.eq_23
@[simp] def zz_evE_24 := @evE.eq_24
@[simp] def zz_evE_25 := @evE.eq_25
@[simp] def zz_evE_26 := @evE.eq_26
@[simp] def zz_evE_27 := @evE.eq_27
@[simp] def zz_evE_28 := @evE.eq_28
@[simp] def zz_evE_29 := @evE.eq_29
@[simp] def zz_evE_30 := @evE.eq_30
@[simp] def zz_evE_31 := @evE.eq_31
@[simp] def zz_evE_32 := @evE.eq_32
@[simp] def zz_evE_33 := @evE.eq_33
@[simp] def zz_evE_35 := @evE.eq_35
@[simp] def zz_evE_36 := @evE.eq_36
@[simp] def zz_evE_37 := @evE.eq_37
@[simp] def zz_evE_38 := @evE.eq_38
@[simp] def zz_evEs_1 := @evEs.eq_1
@[simp] def zz_evEs_2 := @evEs.eq_2
@[simp] def zz_evO_1 := @evO.eq_1
@[simp] def zz_evO_2 := @evO.eq_2
@[simp] def zz_evI_1 := @evI.eq_1
@[simp] def zz_evI_2 := @evI.eq_2
@[simp] def zz_evI_3 := @evI.eq_3
@[simp] def zz_evI_4 := @evI.eq_4
@[simp] def zz_evI_5 := @evI.eq_5
@[simp] def zz_exS_1 := @exS.eq_1
@[simp] def zz_exS_2 := @exS.eq_2
@[simp] def zz_exS_3 := @exS.eq_3
@[simp] def zz_exS_4 := @exS.eq_4
@[simp] def zz_exS_5 := @exS.eq_5
@[simp] def zz_exS_6 := @exS.eq_6
@[simp] def zz_exS_7 := @exS.eq_7
@[simp] def zz_exS_8 := @exS.eq_8
@[simp] def zz_exS_11 := @exS.eq_11
@[simp] def zz_exS_12 := @exS.eq_12
@[simp] def zz_exS_13 := @exS.eq_13
@[simp] def zz_exS_14 := @exS.eq_14
@[simp] def zz_exS_15 := @exS.eq_15
@[simp] def zz_exS_16 := @exS.eq_16
@[simp] def zz_exS_17 := @exS.eq_17
@[simp] def zz_bor_1 := @bor.eq_1
@[simp] def zz_bor_2 := @bor.eq_2
@[simp] def zz_retR_1 := @retR.eq_1
@[simp] def zz_retR_2 := @retR.eq_2
@[simp] def zz_startE_1 := @startE.eq_1
@[simp] def zz_outD_1 := @outD.eq_1
@[simp] def zz_outD_2 := @outD.eq_2
@[simp] def zz_outD_3 := @outD.eq_3
@[simp] def zz_body_1 := @body.eq_1
@[simp] def zz_body_2 := @body.eq_2
@[simp] def zz_body_3 := @body.eq_3
@[simp] def zz_body_4 := @body.eq_4
@[simp] def zz_body_5 := @body.eq_5
@[simp] def zz_body_6 := @body.eq_6
@[simp] def zz_body_7 := @body.eq_7
@[simp] def zz_body_8 := @body.eq_8
@[simp] def zz_body_9 := @body.eq_9
@[simp] def zz_body_10 := @body.eq_10
@[simp] def zz_body_11 := @body.eq_11
@[simp] def zz_body_12 := @body.eq_12
@[simp] def zz_body_13 := @body.eq_13
@[simp] def zz_body_14 := @body.eq_14
@[simp] def zz_body_15 := @body.eq_15
@[simp] def zz_body_16 := @body.eq_16
@[simp] def zz_body_17 := @body.eq_17
@[simp] def zz_body_18 := @body.eq_18
@[simp] def zz_body_19 := @body.eq_19
@[simp] def zz_body_20 := @body.eq_20
@[simp] def zz_body_21 := @body.eq_21
@[simp] def zz_body_22 := @body.eq_22
@[simp] def zz_body_23 := @body.eq_23
@[simp] def zz_body_24 := @body.eq_24
@[simp] def zz_body_25 := @body.eq_25
@[simp] def zz_body_26 := @body.eq_26
@[simp] def zz_body_27 := @body.eq_27
@[simp] def zz_body_28 := @body.eq_28
@[simp] def zz_body_29 := @body.eq_29
@[simp] def zz_body_30 := @body.eq_30
@[simp] def zz_body_31 := @body.eq_31
@[simp] def zz_body_32 := @body.eq_32
@[simp] def zz_body_33 := @body.eq_33
@[simp] def zz_body_34 := @body.eq_34
@[simp] def zz_body_35 := @body.eq_35
@[simp] def zz_body_36 := @body.eq_36
@[simp] def zz_body_37 := @body.eq_37
@[simp] def zz_body_38 := @body.eq_38
@[simp] def zz_body_39 := @body.eq_39
@[simp] def zz_body_40 := @body.eq_40
@[simp] def zz_body_41 := @body.eq_41
@[simp] def zz_body_42 := @body.eq_42
@[simp] def zz_body_43 := @body.eq_43
@[simp] def zz_body_44 := @body.eq_44
@[simp] def zz_body_45 := @body.eq_45
@[simp] def zz_body_46 := @body.eq_46
@[simp] def zz_body_47 := @body.eq_47
@[simp] def zz_body_48 := @body.eq_48
@[simp] def zz_body_49 := @body.eq_49
@[simp] def zz_body_50 := @body.eq_50
@[simp] def zz_body_51 := @body.eq_51
@[simp] def zz_body_52 := @body.eq_52
@[simp] def zz_body_53 := @body.eq_53
@[simp] def zz_body_54 := @body.eq_54
@[simp] def zz_body_55 := @body.eq_55
@[simp] def zz_body_56 := @body.eq_56
@[simp] def zz_body_57 := @body.eq_57
@[simp] def zz_body_58 := @body.eq_58
@[simp] def zz_body_59 := @body.eq_59
@[simp] def zz_body_60 := @body.eq_60
@[simp] def zz_body_61 := @body.eq_61
@[simp] def zz_body_62 := @body.eq_62
@[simp] def zz_body_63 := @body.eq_63
@[simp] def zz_body_64 := @body.eq_64
@[simp] def zz_body_65 := @body.eq_65
@[simp] def zz_body_66 := @body.eq_66
@[simp] def zz_body_67 := @body.eq_67
@[simp] def zz_body_68 := @body.eq_68
@[simp] def zz_body_69 := @body.eq_69
@[simp] def zz_body_70 := @body.eq_70
@[simp] def zz_body_71 := @body.eq_71
@[simp] def zz_body_72 := @body.eq_72
@[simp] def zz_body_73 := @body.eq_73
@[simp] def zz_body_74 := @body.eq_74
@[simp] def zz_body_75 := @body.eq_75
@[simp] def zz_body_76 := @body.eq_76
@[simp] def zz_body_77 := @body.eq_77
@[simp] def zz_body_78 := @body.eq_78
@[simp] def zz_body_79 := @body.eq_79
@[simp] def zz_body_80 := @body.eq_80
@[simp] def zz_body_81 := @body.eq_81
@[simp] def zz_body_82 := @body.eq_82
@[simp] def zz_body_83 := @body.eq_83
@[simp] def zz_body_84 := @body.eq_84
@[simp] def zz_body_85 := @body.eq_85
@[simp] def zz_body_86 := @body.eq_86
@[simp] def zz_np_1 := @np.eq_1
@[simp] def zz_np_2 := @np.eq_2
@[simp] def zz_np_3 := @np.eq_3
@[simp] def zz_np_4 := @np.eq_4
@[simp] def zz_np_5 := @np.eq_5
@[simp] def zz_np_6 := @np.eq_6
@[simp] def zz_np_7 := @np.eq_7
@[simp] def zz_np_8 := @np.eq_8
@[simp] def zz_np_9 := @np.eq_9
@[simp] def zz_np_10 := @np.eq_10
@[simp] def zz_np_11 := @np.eq_11
@[simp] def zz_np_12 := @np.eq_12
@[simp] def zz_np_13 := @np.eq_13
@[simp] def zz_np_14 := @np.eq_14
@[simp] def zz_np_15 := @np.eq_15
@[simp] def zz_np_16 := @np.eq_16
@[simp] def zz_np_17 := @np.eq_17
@[simp] def zz_np_18 := @np.eq_18
@[simp] def zz_np_19 := @np.eq_19
@[simp] def zz_np_20 := @np.eq_20
@[simp] def zz_np_21 := @np.eq_21
@[simp] def zz_np_22 := @np.eq_22
@[simp] def zz_np_23 := @np.eq_23
@[simp] def zz_np_24 := @np.eq_24
@[simp] def zz_np_25 := @np.eq_25
@[simp] def zz_np_26 := @np.eq_26
@[simp] def zz_np_27 := @np.eq_27
@[simp] def zz_np_28 := @np.eq_28
@[simp] def zz_np_29 := @np.eq_29
@[simp] def zz_np_30 := @np.eq_30
@[simp] def zz_np_31 := @np.eq_31
@[simp] def zz_np_32 := @np.eq_32
@[simp] def zz_np_33 := @np.eq_33
@[simp] def zz_np_34 := @np.eq_34
@[simp] def zz_np_35 := @np.eq_35
@[simp] def zz_np_36 := @np.eq_36
@[simp] def zz_np_37 := @np.eq_37
@[simp] def zz_np_38 := @np.eq_38
@[simp] def zz_np_39 := @np.eq_39
@[simp] def zz_np_40 := @np.eq_40
@[simp] def zz_np_41 := @np.eq_41
@[simp] def zz_np_42 := @np.eq_42
@[simp] def zz_np_43 := @np.eq_43
@[simp] def zz_np_44 := @np.eq_44
@[simp] def zz_np_45 := @np.eq_45
@[simp] def zz_np_46 := @np.eq_46
@[simp] def zz_np_47 := @np.eq_47
@[simp] def zz_np_48 := @np.eq_48
@[simp] def zz_np_49 := @np.eq_49
@[simp] def zz_np_50 := @np.eq_50
@[simp] def zz_np_51 := @np.eq_51
@[simp] def zz_np_52 := @np.eq_52
@[simp] def zz_np_53 := @np.eq_53
@[simp] def zz_np_54 := @np.eq_54
@[simp] def zz_np_55 := @np.eq_55
@[simp] def zz_np_56 := @np.eq_56
@[simp] def zz_np_57 := @np.eq_57
@[simp] def zz_np_58 := @np.eq_58
@[simp] def zz_np_59 := @np.eq_59
@[simp] def zz_np_60 := @np.eq_60
@[simp] def zz_np_61 := @np.eq_61
@[simp] def zz_np_62 := @np.eq_62
@[simp] def zz_np_63 := @np.eq_63
@[simp] def zz_np_64 := @np.eq_64
@[simp] def zz_np_65 := @np.eq_65
@[simp] def zz_np_66 := @np.eq_66
@[simp] def zz_np_67 := @np.eq_67
@[simp] def zz_np_68 := @np.eq_68
@[simp] def zz_np_69 := @np.eq_69
@[simp] def zz_np_70 := @np.eq_70
@[simp] def zz_np_71 := @np.eq_71
@[simp] def zz_np_72 := @np.eq_72
@[simp] def zz_np_73 := @np.eq_73
@[simp] def zz_np_74 := @np.eq_74
@[simp] def zz_np_75 := @np.eq_75
@[simp] def zz_np_76 := @np.eq_76
@[simp] def zz_np_77 := @np.eq_77
@[simp] def zz_np_78 := @np.eq_78
@[simp] def zz_np_79 := @np.eq_79
@[simp] def zz_np_80 := @np.eq_80
@[simp] def zz_np_81 := @np.eq_81
@[simp] def zz_np_82 := @np.eq_82
@[simp] def zz_np_83 := @np.eq_83
@[simp] def zz_np_84 := @np.eq_84
@[simp] def zz_np_85 := @np.eq_85
@[simp] def zz_np_86 := @np.eq_86
@[simp] def zz_nsl_1 := @nsl.eq_1
@[simp] def zz_nsl_2 := @nsl.eq_2
@[simp] def zz_nsl_3 := @nsl.eq_3
@[simp] def zz_nsl_4 := @nsl.eq_4
@[simp] def zz_nsl_5 := @nsl.eq_5
@[simp] def zz_nsl_6 := @nsl.eq_6
@[simp] def zz_nsl_7 := @nsl.eq_7
@[simp] def zz_nsl_8 := @nsl.eq_8
@[simp] def zz_nsl_9 := @nsl.eq_9
@[simp] def zz_nsl_10 := @nsl.eq_10
@[simp] def zz_nsl_11 := @nsl.eq_11
@[simp] def zz_nsl_12 := @nsl.eq_12
@[simp] def zz_nsl_13 := @nsl.eq_13
@[simp] def zz_nsl_14 := @nsl.eq_14
@[simp] def zz_nsl_15 := @nsl.eq_15
@[simp] def zz_nsl_16 := @nsl.eq_16
@[simp] def zz_nsl_17 := @nsl.eq_17
@[simp] def zz_nsl_18 := @nsl.eq_18
@[simp] def zz_nsl_19 := @nsl.eq_19
@[simp] def zz_nsl_20 := @nsl.eq_20
@[simp] def zz_nsl_21 := @nsl.eq_21
@[simp] def zz_nsl_22 := @nsl.eq_22
@[simp] def zz_nsl_23 := @nsl.eq_23
@[simp] def zz_nsl_24 := @nsl.eq_24
@[simp] def zz_nsl_25 := @nsl.eq_25
@[simp] def zz_nsl_26 := @nsl.eq_26
@[simp] def zz_nsl_27 := @nsl.eq_27
@[simp] def zz_nsl_28 := @nsl.eq_28
@[simp] def zz_nsl_29 := @nsl.eq_29
@[simp] def zz_nsl_30 := @nsl.eq_30
@[simp] def zz_nsl_31 := @nsl.eq_31
@[simp] def zz_nsl_32 := @nsl.eq_32
@[simp] def zz_nsl_33 := @nsl.eq_33
@[simp] def zz_nsl_34 := @nsl.eq_34
@[simp] def zz_nsl_35 := @nsl.eq_35
@[simp] def zz_nsl_36 := @nsl.eq_36
@[simp] def zz_nsl_37 := @nsl.eq_37
@[simp] def zz_nsl_38 := @nsl.eq_38
@[simp] def zz_nsl_39 := @nsl.eq_39
@[simp] def zz_nsl_40 := @nsl.eq_40
@[simp] def zz_nsl_41 := @nsl.eq_41
@[simp] def zz_nsl_42 := @nsl.eq_42
@[simp] def zz_nsl_43 := @nsl.eq_43
@[simp] def zz_nsl_44 := @nsl.eq_44
@[simp] def zz_nsl_45 := @nsl.eq_45
@[simp] def zz_nsl_46 := @nsl.eq_46
@[simp] def zz_nsl_47 := @nsl.eq_47
@[simp] def zz_nsl_48 := @nsl.eq_48
@[simp] def zz_nsl_49 := @nsl.eq_49
@[simp] def zz_nsl_50 := @nsl.eq_50
@[simp] def zz_nsl_51 := @nsl.eq_51
@[simp] def zz_nsl_52 := @nsl.eq_52
@[simp] def zz_nsl_53 := @nsl.eq_53
@[simp] def zz_nsl_54 := @nsl.eq_54
@[simp] def zz_nsl_55 := @nsl.eq_55
@[simp] def zz_nsl_56 := @nsl.eq_56
@[simp] def zz_nsl_57 := @nsl.eq_57
@[simp] def zz_nsl_58 := @nsl.eq_58
@[simp] def zz_nsl_59 := @nsl.eq_59
@[simp] def zz_nsl_60 := @nsl.eq_60
@[simp] def zz_nsl_61 := @nsl.eq_61
@[simp] def zz_nsl_62 := @nsl.eq_62
@[simp] def zz_nsl_63 := @nsl.eq_63
@[simp] def zz_nsl_64 := @nsl.eq_64
@[simp] def zz_nsl_65 := @nsl.eq_65
@[simp] def zz_nsl_66 := @nsl.eq_66
@[simp] def zz_nsl_67 := @nsl.eq_67
@[simp] def zz_nsl_68 := @nsl.eq_68
@[simp] def zz_nsl_69 := @nsl.eq_69
@[simp] def zz_nsl_70 := @nsl.eq_70
@[simp] def zz_nsl_71 := @nsl.eq_71
@[simp] def zz_nsl_72 := @nsl.eq_72
@[simp] def zz_nsl_73 := @nsl.eq_73
@[simp] def zz_nsl_74 := @nsl.eq_74
@[simp] def zz_nsl_75 := @nsl.eq_75
@[simp] def zz_nsl_76 := @nsl.eq_76
@[simp] def zz_nsl_77 := @nsl.eq_77
@[simp] def zz_nsl_78 := @nsl.eq_78
@[simp] def zz_nsl_79 := @nsl.eq_79
@[simp] def zz_nsl_80 := @nsl.eq_80
@[simp] def zz_nsl_81 := @nsl.eq_81
@[simp] def zz_nsl_82 := @nsl.eq_82
@[simp] def zz_nsl_83 := @nsl.eq_83
@[simp] def zz_nsl_84 := @nsl.eq_84
@[simp] def zz_nsl_85 := @nsl.eq_85
@[simp] def zz_nsl_86 := @nsl.eq_86
@[simp] def zz_globD_1 := @globD.eq_1
@[simp] def zz_globD_2 := @globD.eq_2
@[simp] def zz_globD_3 := @globD.eq_3
@[simp] def zz_globD_4 := @globD.eq_4
@[simp] def zz_globD_5 := @globD.eq_5
@[simp] def zz_globD_6 := @globD.eq_6
@[simp] def zz_globD_7 := @globD.eq_7
@[simp] def zz_globD_8 := @globD.eq_8
@[simp] def zz_dfl_1 := @dfl.eq_1
@[simp] def zz_dfl_2 := @dfl.eq_2
@[simp] def zz_tsl_1 := @tsl.eq_1
@[simp] def zz_tsl_2 := @tsl.eq_2
@[simp] def zz_wipeE_1 := @wipeE.eq_1
@[simp] def zz_wipeE_2 := @wipeE.eq_2
@[simp] def zz_noOwn_1 := @noOwn.eq_1
@[simp] def zz_bindMany_1 := @bindMany.eq_1
@[simp] def zz_bindMany_2 := @bindMany.eq_2
@[simp] def zz_bindMany_3 := @bindMany.eq_3
@[simp] def zz_bindT_1 := @bindT.eq_1
@[simp] def zz_bindT_2 := @bindT.eq_2
@[simp] def zz_bindT_3 := @bindT.eq_3
@[simp] def zz_itemsD_1 := @itemsD.eq_1
@[simp] def zz_itemsD_2 := @itemsD.eq_2
@[simp] def zz_itemsD_3 := @itemsD.eq_3
@[simp] def zz_itemsD_4 := @itemsD.eq_4
@[simp] def zz_deskAt_1 := @deskAt.eq_1
@[simp] def zz_freshq_1 := @fresh?.eq_1
@[simp] def zz_freshq_2 := @fresh?.eq_2
@[simp] def zz_freshq_3 := @fresh?.eq_3
@[simp] def zz_freshq_4 := @fresh?.eq_4
@[simp] def zz_freshq_5 := @fresh?.eq_5
@[simp] def zz_freshq_6 := @fresh?.eq_6
@[simp] def zz_freshq_7 := @fresh?.eq_7
@[simp] def zz_canOwn_1 := @canOwn.eq_1
@[simp] def zz_canOwn_2 := @canOwn.eq_2
@[simp] def zz_canOwn_3 := @canOwn.eq_3
@[simp] def zz_canOwn_4 := @canOwn.eq_4
@[simp] def zz_isiD_1 := @isiD.eq_1
@[simp] def zz_isiD_2 := @isiD.eq_2
@[simp] def zz_isiD_3 := @isiD.eq_3
@[simp] def zz_isiD_4 := @isiD.eq_4
@[simp] def zz_isiD_5 := @isiD.eq_5
@[simp] def zz_isiD_6 := @isiD.eq_6
@[simp] theorem sl_eq : sizeLine = 16777216 := rfl
section
variable (i j : Int) (a b : List Nat) (u v : List D)
@[simp] theorem bin_add_i : binD .add (.int i) (.int j) = some (.int (i + j)) := rfl
@[simp] theorem bin_sub_i : binD .sub (.int i) (.int j) = some (.int (i - j)) := rfl
@[simp] theorem bin_add_s : binD .add (.str a) (.str b) = if a.length + b.length ≤ sizeLine then some (.str (a ++ b)) else none := rfl
@[simp] theorem bin_add_t : binD .add (.tup u) (.tup v) = if u.length + v.length ≤ sizeLine then some (.tup (u ++ v)) else none := rfl
@[simp] theorem bin_add_l : binD .add (.lst u) (.lst v) = if u.length + v.length ≤ sizeLine then some (.lst (u ++ v)) else none := rfl
@[simp] theorem bin_mul_i : binD .mul (.int i) (.int j) = if (-(2 ^ 64) < i ∧ i < 2 ^ 64) ∨ (-(2 ^ 64) < j ∧ j < 2 ^ 64) then some (.int (i * j)) else none := rfl
@[simp] theorem bin_mul_s (c : Nat) : binD .mul (.str [c]) (.int j) = if 0 ≤ j ∧ j < 100 then some (.str (List.replicate j.toNat c)) else none := rfl
@[simp] theorem bin_mod_i : binD .mod (.int i) (.int j) = if 0 < j then some (.int (i % j)) else none := rfl
@[simp] theorem bin_fdiv_i : binD .fdiv (.int i) (.int j) = if 0 < j ∧ j < 1073741824 then some (.int (i / j)) else none := rfl
@[simp] theorem bin_pow_i : binD .pow (.int i) (.int j) = if 0 ≤ j ∧ j ≤ 1000000 ∧ i.natAbs < 2 ^ 64 then some (.int (i ^ j.toNat)) else none := rfl
@[simp] theorem bin_shr_i : binD .shr (.int i) (.int j) = if 0 ≤ j then some (.int (i / 2 ^ j.toNat)) else none := rfl
@[simp] theorem bin_land_i : binD .land (.int i) (.int j) = some (.int (Builtin.bitAnd i j)) := rfl
@[simp] theorem eq_ii : eqD (.int i) (.int j) = some (decide (i = j)) := rfl
@[simp] theorem eq_ss : eqD (.str a) (.str b) = some (decide (a = b)) := rfl
@[simp] theorem eq_bb (x y : Bool) : eqD (.bl x) (.bl y) = some (decide (x = y)) := rfl
variable (x y : D)
@[simp] theorem cmp_eq : cmpD .eq x y = (eqD x y).map .bl := rfl
@[simp] theorem cmp_ne : cmpD .ne x y = (eqD x y).map fun c => .bl (!c) := rfl
@[simp] theorem cmp_lt_i : cmpD .lt (.int i) (.int j) = some (.bl (decide (i < j))) := rfl
@[simp] theorem cmp_lt_s : cmpD .lt (.str a) (.str b) = some (.bl (ltS a b)) := rfl
@[simp] theorem cmp_lt_p (p q : Int × Int) : cmpD .lt (ofPair p) (ofPair q) = some (.bl (ltP p q)) := rfl
@[simp] theorem cmp_le_i : cmpD .le (.int i) (.int j) = some (.bl (decide (i ≤ j))) := rfl
@[simp] theorem cmp_gt_i : cmpD .gt (.int i) (.int j) = some (.bl (decide (j < i))) := rfl
@[simp] theorem cmp_ge_i : cmpD .ge (.int i) (.int j) = some (.bl (decide (j ≤ i))) := rfl
@[simp] theorem cmp_in : cmpD .isin x y = (inD x y).map .bl := rfl
@[simp] theorem cmp_nin : cmpD .notin x y = (inD x y).map fun c => .bl (!c) := rfl
@[simp] theorem cmp_isN_n : cmpD .isN .non .non = some (.bl true) := rfl
@[simp] theorem cmp_isN_s : cmpD .isN (.str a) .non = some (.bl false) := rfl
@[simp] theorem cmp_notN_n : cmpD .notN .non .non = some (.bl false) := rfl
@[simp] theorem cmp_notN_s : cmpD .notN (.str a) .non = some (.bl true) := rfl
@[simp] theorem in_ss (c : Nat) : inD (.str [c]) (.str b) = some (decide (c ∈ b)) := rfl
@[simp] theorem ix_t : ixD (.tup u) (.int i) = L2.atI u i := rfl
@[simp] theorem ix_l : ixD (.lst u) (.int i) = L2.atI u i := rfl
@[simp] theorem ix_sc (ns : List Int) : ixD (.scr ns) (.int i) = (L2.atI ns i).map .int := rfl
@[simp] theorem ix_s : ixD (.str a) (.int i) = if a.length ≤ sizeLine then (L2.atI a i).map fun c => .str [c] else none := rfl
@[simp] theorem ix_d (l : List (List Nat × Int)) : ixD (.dic l) (.str a) = (lookS a l).map .int := rfl
variable (lo hi : Option Int)
@[simp] theorem sl_t : slD (.tup u) lo hi = some (.tup (cutL u lo hi)) := rfl
@[simp] theorem sl_l : slD (.lst u) lo hi = some (.lst (cutL u lo hi)) := rfl
@[simp] theorem sl_sc (ns : List Int) : slD (.scr ns) lo hi = some (.lst ((cutL ns lo hi).map .int)) := rfl
@[simp] theorem sl_s : slD (.str a) lo hi = if a.length ≤ sizeLine then some (.str (cutL a lo hi)) else none := rfl
@[simp] theorem b1_len_s : b1D .len1 (.str a) = if a.length ≤ sizeLine then some (.int a.length) else none := rfl
@[simp] theorem b1_len_t : b1D .len1 (.tup u) = some (.int u.length) := rfl
@[simp] theorem b1_len_l : b1D .len1 (.lst u) = some (.int u.length) := rfl
@[simp] theorem b1_len_sc (ns : List Int) : b1D .len1 (.scr ns) = some (.int ns.length) := rfl
@[simp] theorem b1_int_b (c : Bool) : b1D .int1 (.bl c) = some (.int (if c then 1 else 0)) := rfl
@[simp] theorem b1_int_s (c : Nat) : b1D .int1 (.str [c]) = if 48 ≤ c ∧ c ≤ 57 then some (.int ((c - 48 : Nat) : Int)) else none := rfl
@[simp] theorem b1_str : b1D .str1 (.int i) = if 0 ≤ i ∧ i ≤ 9 then some (.str [48 + i.toNat]) else none := rfl
@[simp] theorem b1_tup_l : b1D .tuple1 (.lst u) = some (.tup u) := rfl
@[simp] theorem b1_tup_t : b1D .tuple1 (.tup u) = some (.tup u) := rfl
@[simp] theorem b1_lst_l : b1D .list1 (.lst u) = some (.lst u) := rfl
@[simp] theorem b1_lst_t : b1D .list1 (.tup u) = some (.lst u) := rfl
@[simp] theorem b1_all : b1D .all1 (.lst u) = (asBls u).map fun bs => .bl (bs.all id) := rfl
@[simp] theorem b1_max : b1D .maxd (.lst u) = (asInts u).map fun ns => .int (maxL ns) := rfl
@[simp] theorem b1_dict (l : List (List Nat × Int)) : b1D .dict1 (.dic l) = some (.dic l) := rfl
@[simp] theorem b2_maxP : b2D .max2 (.int i) (.int j) = some (.int (if j > i then j else i)) := rfl
@[simp] theorem b2_minP : b2D .min2 (.int i) (.int j) = some (.int (if j < i then j else i)) := rfl
end
section
variable (cl : Cl) (r : MSs) (ρ : En) (s : Sh)
@[simp] theorem seq_nil : exSs cl .nil ρ s = some (.nx ρ s) := rfl
@[simp] theorem seq_never  : exSs cl (.cons (.never) r) ρ s = (match exS cl (.never) ρ s with | some (.nx ρ1 s1) => exSs cl r ρ1 s1 | o => o) := rfl
@[simp] theorem seq_ex (e : ME) : exSs cl (.cons (.ex e) r) ρ s = (match exS cl (.ex e) ρ s with | some (.nx ρ1 s1) => exSs cl r ρ1 s1 | o => o) := rfl
@[simp] theorem seq_set (i : Nat) (e : ME) : exSs cl (.cons (.set i e) r) ρ s = (match exS cl (.set i e) ρ s with | some (.nx ρ1 s1) => exSs cl r ρ1 s1 | o => o) := rfl
@[simp] theorem seq_setOwn (i : Nat) (e : ME) : exSs cl (.cons (.setOwn i e) r) ρ s = (match exS cl (.setOwn i e) ρ s with | some (.nx ρ1 s1) => exSs cl r ρ1 s1 | o => o) := rfl
@[simp] theorem seq_setLc (i : Nat) (e : ME) : exSs cl (.cons (.setLc i e) r) ρ s = (match exS cl (.setLc i e) ρ s with | some (.nx ρ1 s1) => exSs cl r ρ1 s1 | o => o) := rfl
@[simp] theorem seq_setT (l : List Nat) (e : ME) : exSs cl (.cons (.setT l e) r) ρ s = (match exS cl (.setT l e) ρ s with | some (.nx ρ1 s1) => exSs cl r ρ1 s1 | o => o) := rfl
@[simp] theorem seq_ret (e : ME) : exSs cl (.cons (.ret e) r) ρ s = (match exS cl (.ret e) ρ s with | some (.nx ρ1 s1) => exSs cl r ρ1 s1 | o => o) := rfl
@[simp] theorem seq_iff (c : ME) (t f : MSs) : exSs cl (.cons (.iff c t f) r) ρ s = (match exS cl (.iff c t f) ρ s with | some (.nx ρ1 s1) => exSs cl r ρ1 s1 | o => o) := rfl
@[simp] theorem seq_app (i : Nat) (e : ME) : exSs cl (.cons (.app i e) r) ρ s = (match exS cl (.app i e) ρ s with | some (.nx ρ1 s1) => exSs cl r ρ1 s1 | o => o) := rfl
@[simp] theorem seq_ext (i : Nat) (e : ME) : exSs cl (.cons (.ext i e) r) ρ s = (match exS cl (.ext i e) ρ s with | some (.nx ρ1 s1) => exSs cl r ρ1 s1 | o => o) := rfl
@[simp] theorem seq_put (i : Nat) (k e : ME) : exSs cl (.cons (.put i k e) r) ρ s = (match exS cl (.put i k e) ρ s with | some (.nx ρ1 s1) => exSs cl r ρ1 s1 | o => o) := rfl
@[simp] theorem seq_dput (i : Nat) (k e : ME) : exSs cl (.cons (.dput i k e) r) ρ s = (match exS cl (.dput i k e) ρ s with | some (.nx ρ1 s1) => exSs cl r ρ1 s1 | o => o) := rfl
@[simp] theorem seq_lput (i : Nat) (k e : ME) : exSs cl (.cons (.lput i k e) r) ρ s = (match exS cl (.lput i k e) ρ s with | some (.nx ρ1 s1) => exSs cl r ρ1 s1 | o => o) := rfl
@[simp] theorem seq_shPut (k e : ME) : exSs cl (.cons (.shPut k e) r) ρ s = (match exS cl (.shPut k e) ρ s with | some (.nx ρ1 s1) => exSs cl r ρ1 s1 | o => o) := rfl
@[simp] theorem seq_frz (i : Nat) : exSs cl (.cons (.frz i) r) ρ s = (match exS cl (.frz i) ρ s with | some (.nx ρ1 s1) => exSs cl r ρ1 s1 | o => o) := rfl
end
/-! ### places -/
theorem atI_nat {α : Type} (xs : List α) (i : Nat) : L2.atI xs (i : Int) = xs[i]? := by
  unfold L2.atI L2.ixN
  by_cases h : i < xs.length
  · simp [h]
  · simp [h]
theorem atI_pos {α : Type} {xs : List α} {i : Int} (h0 : 0 ≤ i) (h : i < xs.length) : L2.atI xs i = some (xs[i.toNat]'(by omega)) := by
  obtain ⟨n, rfl⟩ := Int.eq_ofNat_of_zero_le h0
  rw [atI_nat]
  simp
@[simp] theorem atI_0 {α : Type} (x : α) (xs : List α) : L2.atI (x :: xs) 0 = some x := by
  have := atI_nat (x :: xs) 0
  simpa using this
@[simp] theorem atI_1 {α : Type} (x y : α) (xs : List α) : L2.atI (x :: y :: xs) 1 = some y := by
  have := atI_nat (x :: y :: xs) 1
  simpa using this
@[simp] theorem atI_2 {α : Type} (x y z : α) (xs : List α) : L2.atI (x :: y :: z :: xs) 2 = some z := by
  have := atI_nat (x :: y :: z :: xs) 2
  simpa using this
@[simp] theorem atI_3 {α : Type} (x y z t : α) (xs : List α) : L2.atI (x :: y :: z :: t :: xs) 3 = some t := by
  have := atI_nat (x :: y :: z :: t :: xs) 3
  simpa using this
theorem atI_last {α : Type} (xs : List α) (x : α) : L2.atI (xs ++ [x]) (-1) = some x := by
  unfold L2.atI L2.ixN
  have : (-1 + ((xs.length : Int) + 1)).toNat = xs.length := by omega
  simp [this]
  rw [if_pos (by omega)]
  simp
theorem cut_all {α : Type} (xs : List α) : cutL xs none none = xs := by
  unfold cutL HT.sIx
  simp
theorem cut_to {α : Type} (xs : List α) (n : Nat) : cutL xs none (some (n : Int)) = xs.take n := by
  unfold cutL
  rw [HT.sIx_nat, HT.sIx_none]
  simp [List.take_eq_take_iff]
theorem cut_from {α : Type} (xs : List α) (n : Nat) : cutL xs (some (n : Int)) none = xs.drop n := by
  unfold cutL
  rw [HT.sIx_nat, HT.sIx_none]
  by_cases h : n ≤ xs.length
  · rw [Nat.min_eq_left h, List.take_of_length_le (by simp)]
  · rw [Nat.min_eq_right (by omega)]
    simp; omega
theorem cut_both {α : Type} (xs : List α) (m n : Nat) : cutL xs (some (m : Int)) (some (n : Int)) = (xs.drop m).take (n - m) := by
  unfold cutL
  rw [HT.sIx_nat, HT.sIx_nat]
  by_cases h : m ≤ xs.length
  · rw [Nat.min_eq_left h, List.take_eq_take_iff]
    simp only [List.length_drop]
    omega
  · rw [Nat.min_eq_right (show xs.length ≤ m by omega), List.drop_eq_nil_of_le (by omega), List.drop_eq_nil_of_le (by omega)]
    simp
@[simp] theorem asBls_map : ∀ l : List Bool, asBls (l.map .bl) = some l
  | [] => rfl
  | x :: r => by simp [asBls, asBls_map r]
theorem asBls_m {α : Type} (f : α → Bool) (l : List α) : asBls (l.map fun x => D.bl (f x)) = some (l.map f) := by
  have := asBls_map (l.map f)
  rwa [List.map_map] at this
@[simp] theorem asInts_map : ∀ l : List Int, asInts (l.map .int) = some l
  | [] => rfl
  | x :: r => by simp [asInts, asInts_map r]
@[simp] theorem asStrs_map : ∀ l : List (List Nat), asStrs (l.map .str) = some l
  | [] => rfl
  | x :: r => by simp [asStrs, asStrs_map r]
theorem asStrs_m {α : Type} (f : α → List Nat) (l : List α) : asStrs (l.map fun x => D.str (f x)) = some (l.map f) := by
  have := asStrs_map (l.map f)
  rwa [List.map_map] at this
/-! ### loops -/
section
variable {cl : Cl} {s : Sh}
theorem compL_m {α : Type} {f : D → Sh → Option (Option D × Sh)} (e g : α → D) : ∀ (l : List α), (∀ x ∈ l, f (e x) s = some (some (g x), s)) → compL f (l.map e) s = some (l.map g, s)
  | [], _ => rfl
  | x :: r, h => by
    rw [List.map_cons, compL, h x (by simp)]
    simp only []
    rw [compL_m e g r (fun y hy => h y (by simp [hy]))]
    rfl
theorem compL_f {α : Type} {f : D → Sh → Option (Option D × Sh)} (e g : α → D) (p : α → Bool) : ∀ (l : List α), (∀ x ∈ l, f (e x) s = some (if p x = true then some (g x) else none, s)) → compL f (l.map e) s = some ((l.filter p).map g, s)
  | [], _ => rfl
  | x :: r, h => by
    rw [List.map_cons, compL, h x (by simp)]
    simp only []
    rw [compL_f e g p r (fun y hy => h y (by simp [hy]))]
    by_cases hp : p x = true <;> simp [hp]
/-- a comprehension without a test -/
theorem ev_comp_m {α : Type} {tst : Bool} {elt : ME} {t : MT} {it : MI} {ρ : En} {e : α → D} {l : List α} (g : α → D) (hi : evI cl it ρ s = some (l.map e, s)) (hn : noOwn ρ (tsl t) = true) (hl : l.length ≤ 10000000)
    (h : ∀ x ∈ l, ∃ ρ1, bindT t (e x) (wipeE ρ (tsl t)) = some ρ1 ∧ evE cl elt ρ1 s = some (g x, s)) : evE cl (.comp tst elt t it (.bl true)) ρ s = some (.lst (l.map g), s) := by
  rw [evE.eq_def]
  simp only [hi, hn, List.length_map, hl, and_self, if_true]
  rw [compL_m e g l (fun x hx => by
    obtain ⟨ρ1, h1, h2⟩ := h x hx
    simp only [h1, evE, h2])]
theorem ev_comp_f {α : Type} {tst : Bool} {elt c : ME} {t : MT} {it : MI} {ρ : En} {e : α → D} {l : List α} (g : α → D) (p : α → Bool) (hi : evI cl it ρ s = some (l.map e, s)) (hn : noOwn ρ (tsl t) = true) (hl : l.length ≤ 10000000)
    (h : ∀ x ∈ l, ∃ ρ1, bindT t (e x) (wipeE ρ (tsl t)) = some ρ1 ∧ evE cl c ρ1 s = some (.bl (p x), s) ∧ (p x = true → evE cl elt ρ1 s = some (g x, s))) : evE cl (.comp tst elt t it c) ρ s = some (.lst ((l.filter p).map g), s) := by
  rw [evE.eq_def]
  simp only [hi, hn, List.length_map, hl, and_self, if_true]
  rw [compL_f e g p l (fun x hx => by
    obtain ⟨ρ1, h1, h2, h3⟩ := h x hx
    simp only [h1, h2]
    by_cases hp : p x = true
    · simp [hp, h3 hp]
    · simp [hp])]
/-- a loop that runs to its end -/
theorem forL_ex {f : D → En → Sh → Option Out} (I : Nat → En → Prop) : ∀ (xs : List D) (n : Nat) (ρ : En), I n ρ → (∀ i (h : i < xs.length) ρ, I (n + i) ρ → ∃ ρ', f xs[i] ρ s = some (.nx ρ' s) ∧ I (n + i + 1) ρ') → ∃ ρ', forL f xs ρ s = some (.nx ρ' s) ∧ I (n + xs.length) ρ'
  | [], n, ρ, h0, _ => ⟨ρ, rfl, h0⟩
  | x :: r, n, ρ, h0, hs => by
    obtain ⟨ρ1, h1, h2⟩ := hs 0 (by simp) ρ h0
    obtain ⟨ρ2, h3, h4⟩ := forL_ex I r (n + 1) ρ1 h2 (fun i h ρ hi => by
      have := hs (i + 1) (by simp; omega) ρ (by rw [← Nat.add_assoc, Nat.add_right_comm]; exact hi)
      rw [show n + (i + 1) + 1 = n + 1 + i + 1 by omega] at this
      exact this)
    refine ⟨ρ2, ?_, ?_⟩
    · rw [forL]
      simp only [List.getElem_cons_zero] at h1
      rw [h1]
      exact h3
    · rw [List.length_cons, show n + (r.length + 1) = n + 1 + r.length by omega]
      exact h4
theorem ex_for {t : MT} {it : MI} {b : MSs} {ρ : En} (I : Nat → En → Prop) {xs : List D} (hi : evI cl it ρ s = some (xs, s)) (h0 : I 0 ρ)
    (hs : ∀ i (h : i < xs.length) ρ, I i ρ → ∃ ρ1 ρ', bindT t xs[i] ρ = some ρ1 ∧ exSs cl b ρ1 s = some (.nx ρ' s) ∧ I (i + 1) ρ') : ∃ ρ', exS cl (.for_ t it b) ρ s = some (.nx ρ' s) ∧ I xs.length ρ' := by
  rw [exS.eq_def]
  simp only [hi]
  have := forL_ex (s := s) (f := fun x ρ s => match bindT t x ρ with
      | some ρ1 => exSs cl b ρ1 s
      | none => none) I xs 0 ρ h0 (fun i h ρ hI => by
    rw [Nat.zero_add] at hI ⊢
    obtain ⟨ρ1, ρ', h1, h2, h3⟩ := hs i h ρ hI
    exact ⟨ρ', by simp only [h1, h2], h3⟩)
  rw [Nat.zero_add] at this
  exact this
/-- a loop that may be left -/
theorem forL_q {α : Type} {f : D → En → Sh → Option Out} (e : α → D) (p : α → Bool) (d : D) (I : En → Prop) : ∀ (l : List α) (ρ : En), I ρ → (∀ x ∈ l, ∀ ρ, I ρ → if p x = true then f (e x) ρ s = some (.rt d s) else ∃ ρ', f (e x) ρ s = some (.nx ρ' s) ∧ I ρ') →
    if l.any p = true then forL f (l.map e) ρ s = some (.rt d s) else ∃ ρ', forL f (l.map e) ρ s = some (.nx ρ' s) ∧ I ρ'
  | [], ρ, h0, _ => ⟨ρ, rfl, h0⟩
  | x :: r, ρ, h0, hs => by
    have h1 := hs x (by simp) ρ h0
    by_cases hp : p x = true
    · rw [if_pos hp] at h1
      simp [hp, forL, h1]
    · rw [if_neg hp] at h1
      obtain ⟨ρ1, h1, h2⟩ := h1
      have := forL_q e p d I r ρ1 h2 (fun y hy => hs y (by simp [hy]))
      simpa [hp, forL, h1] using this
theorem ex_forq {α : Type} {t : MT} {it : MI} {b : MSs} {ρ : En} (e : α → D) (p : α → Bool) (d : D) (I : En → Prop) {l : List α} (hi : evI cl it ρ s = some (l.map e, s)) (h0 : I ρ)
    (hs : ∀ x ∈ l, ∀ ρ, I ρ → ∃ ρ1, bindT t (e x) ρ = some ρ1 ∧ if p x = true then exSs cl b ρ1 s = some (.rt d s) else ∃ ρ', exSs cl b ρ1 s = some (.nx ρ' s) ∧ I ρ') :
    if l.any p = true then exS cl (.for_ t it b) ρ s = some (.rt d s) else ∃ ρ', exS cl (.for_ t it b) ρ s = some (.nx ρ' s) ∧ I ρ' := by
  have := forL_q (s := s) (f := fun x ρ s => match bindT t x ρ with
      | some ρ1 => exSs cl b ρ1 s
      | none => none) e p d I l ρ h0 (fun x hx ρ hI => by
    obtain ⟨ρ1, h1, h2⟩ := hs x hx ρ hI
    simpa only [h1] using h2)
  rw [exS.eq_def]
  simp only [hi]
  exact this
theorem exSs_nx {a : MS} {r : MSs} {ρ ρ' : En} {s s' : Sh} (h : exS cl a ρ s = some (.nx ρ' s')) : exSs cl (.cons a r) ρ s = exSs cl r ρ' s' := by
  rw [exSs, h]
theorem exSs_rt {a : MS} {r : MSs} {ρ : En} {d : D} {s s' : Sh} (h : exS cl a ρ s = some (.rt d s')) : exSs cl (.cons a r) ρ s = some (.rt d s') := by
  rw [exSs, h]
theorem call_rt {k : Nat} {f : Fn} {ds : List D} {d : D} {s1 : Sh} (hn : ds.length = np f) (h : exSs (callN k) (body f) (startE f ds) s = some (.rt d s1)) : callN (k + 1) f ds s = some (d, s1) := by
  rw [callN, if_pos hn, h]
  rfl
theorem call_nx {k : Nat} {f : Fn} {ds : List D} {ρ : En} {s1 : Sh} (hn : ds.length = np f) (h : exSs (callN k) (body f) (startE f ds) s = some (.nx ρ s1)) : callN (k + 1) f ds s = some (.non, s1) := by
  rw [callN, if_pos hn, h]
  rfl
section
variable {t : MT} {it : MI} {b r : MSs} {ρ : En}
theorem run_for {o : Option Out} (I : Nat → En → Prop) (xs : List D) (hi : evI cl it ρ s = some (xs, s)) (h0 : I 0 ρ)
    (hs : ∀ i (h : i < xs.length) ρ, I i ρ → ∃ ρ1 ρ', bindT t xs[i] ρ = some ρ1 ∧ exSs cl b ρ1 s = some (.nx ρ' s) ∧ I (i + 1) ρ') (K : ∀ ρ', I xs.length ρ' → exSs cl r ρ' s = o) : exSs cl (.cons (.for_ t it b) r) ρ s = o := by
  obtain ⟨ρ', h1, h2⟩ := ex_for I hi h0 hs
  rw [exSs_nx h1]
  exact K ρ' h2
theorem run_forE {J : En → Prop} (I : Nat → En → Prop) (xs : List D) (hi : evI cl it ρ s = some (xs, s)) (h0 : I 0 ρ)
    (hs : ∀ i (h : i < xs.length) ρ, I i ρ → ∃ ρ1 ρ', bindT t xs[i] ρ = some ρ1 ∧ exSs cl b ρ1 s = some (.nx ρ' s) ∧ I (i + 1) ρ') (K : ∀ ρ', I xs.length ρ' → ∃ ρ'', exSs cl r ρ' s = some (.nx ρ'' s) ∧ J ρ'') : ∃ ρ'', exSs cl (.cons (.for_ t it b) r) ρ s = some (.nx ρ'' s) ∧ J ρ'' := by
  obtain ⟨ρ', h1, h2⟩ := ex_for I hi h0 hs
  rw [exSs_nx h1]
  exact K ρ' h2
theorem run_forR {P : D → Prop} (I : Nat → En → Prop) (xs : List D) (hi : evI cl it ρ s = some (xs, s)) (h0 : I 0 ρ)
    (hs : ∀ i (h : i < xs.length) ρ, I i ρ → ∃ ρ1 ρ', bindT t xs[i] ρ = some ρ1 ∧ exSs cl b ρ1 s = some (.nx ρ' s) ∧ I (i + 1) ρ') (K : ∀ ρ', I xs.length ρ' → ∃ d, exSs cl r ρ' s = some (.rt d s) ∧ P d) : ∃ d, exSs cl (.cons (.for_ t it b) r) ρ s = some (.rt d s) ∧ P d := by
  obtain ⟨ρ', h1, h2⟩ := ex_for I hi h0 hs
  rw [exSs_nx h1]
  exact K ρ' h2
theorem run_q {α : Type} {o : Option Out} (e : α → D) (p : α → Bool) (d : D) (I : En → Prop) (l : List α) (hi : evI cl it ρ s = some (l.map e, s)) (h0 : I ρ)
    (hs : ∀ x ∈ l, ∀ ρ, I ρ → ∃ ρ1, bindT t (e x) ρ = some ρ1 ∧ if p x = true then exSs cl b ρ1 s = some (.rt d s) else ∃ ρ', exSs cl b ρ1 s = some (.nx ρ' s) ∧ I ρ')
    (K1 : l.any p = true → o = some (.rt d s)) (K2 : l.any p = false → ∀ ρ', I ρ' → exSs cl r ρ' s = o) : exSs cl (.cons (.for_ t it b) r) ρ s = o := by
  have := ex_forq e p d I hi h0 hs
  by_cases h : l.any p = true
  · rw [if_pos h] at this
    rw [exSs_rt this, K1 h]
  · rw [if_neg h] at this
    obtain ⟨ρ', h1, h2⟩ := this
    rw [exSs_nx h1]
    exact K2 (by simpa using h) ρ' h2
theorem ex_pre {α : Type} (e : α → D) (I : List α → En → Prop) : ∀ (l pre : List α) (hi : evI cl it ρ s = some (l.map e, s)) (h0 : I pre ρ)
    (hs : ∀ p x q, l = p ++ x :: q → ∀ ρ, I (pre ++ p) ρ → ∃ ρ1, bindT t (e x) ρ = some ρ1 ∧ ∃ ρ', exSs cl b ρ1 s = some (.nx ρ' s) ∧ I (pre ++ p ++ [x]) ρ'), ∃ ρ', exS cl (.for_ t it b) ρ s = some (.nx ρ' s) ∧ I (pre ++ l) ρ' := by
  intro l pre hi h0 hs
  obtain ⟨ρ', h1, h2⟩ := ex_for (b := b) (t := t) (fun i ρ => I (pre ++ l.take i) ρ) hi (by simpa using h0) (fun i h ρ hI => by
    rw [List.length_map] at h
    obtain ⟨ρ1, h1, ρ', h2, h3⟩ := hs (l.take i) l[i] (l.drop (i + 1)) (by
      rw [List.getElem_cons_drop, List.take_append_drop]) ρ hI
    refine ⟨ρ1, ρ', by simpa using h1, h2, ?_⟩
    rw [List.append_assoc, List.take_append_getElem h] at h3
    exact h3)
  refine ⟨ρ', h1, ?_⟩
  rw [List.length_map, List.take_length] at h2
  exact h2
theorem run_pre {α : Type} {o : Option Out} (e : α → D) (I : List α → En → Prop) (l : List α) (hi : evI cl it ρ s = some (l.map e, s)) (h0 : I [] ρ)
    (hs : ∀ p x q, l = p ++ x :: q → ∀ ρ, I p ρ → ∃ ρ1, bindT t (e x) ρ = some ρ1 ∧ ∃ ρ', exSs cl b ρ1 s = some (.nx ρ' s) ∧ I (p ++ [x]) ρ') (K : ∀ ρ', I l ρ' → exSs cl r ρ' s = o) : exSs cl (.cons (.for_ t it b) r) ρ s = o := by
  obtain ⟨ρ', h1, h2⟩ := ex_pre (b := b) (t := t) e I l [] hi h0 (by simpa using hs)
  rw [exSs_nx h1]
  exact K ρ' h2
theorem run_preE {α : Type} {J : En → Prop} (e : α → D) (I : List α → En → Prop) (l : List α) (hi : evI cl it ρ s = some (l.map e, s)) (h0 : I [] ρ)
    (hs : ∀ p x q, l = p ++ x :: q → ∀ ρ, I p ρ → ∃ ρ1, bindT t (e x) ρ = some ρ1 ∧ ∃ ρ', exSs cl b ρ1 s = some (.nx ρ' s) ∧ I (p ++ [x]) ρ') (K : ∀ ρ', I l ρ' → ∃ ρ'', exSs cl r ρ' s = some (.nx ρ'' s) ∧ J ρ'') : ∃ ρ'', exSs cl (.cons (.for_ t it b) r) ρ s = some (.nx ρ'' s) ∧ J ρ'' := by
  obtain ⟨ρ', h1, h2⟩ := ex_pre (b := b) (t := t) e I l [] hi h0 (by simpa using hs)
  rw [exSs_nx h1]
  exact K ρ' h2
theorem run_preR {α : Type} {P : D → Prop} (e : α → D) (I : List α → En → Prop) (l : List α) (hi : evI cl it ρ s = some (l.map e, s)) (h0 : I [] ρ)
    (hs : ∀ p x q, l = p ++ x :: q → ∀ ρ, I p ρ → ∃ ρ1, bindT t (e x) ρ = some ρ1 ∧ ∃ ρ', exSs cl b ρ1 s = some (.nx ρ' s) ∧ I (p ++ [x]) ρ') (K : ∀ ρ', I l ρ' → ∃ d, exSs cl r ρ' s = some (.rt d s) ∧ P d) : ∃ d, exSs cl (.cons (.for_ t it b) r) ρ s = some (.rt d s) ∧ P d := by
  obtain ⟨ρ', h1, h2⟩ := ex_pre (b := b) (t := t) e I l [] hi h0 (by simpa using hs)
  rw [exSs_nx h1]
  exact K ρ' h2
/-- for ..: if not q: return False -/
theorem run_all {α : Type} (e : α → D) (q : α → Bool) (I : En → Prop) (l : List α) {c : Bool} (hi : evI cl it ρ s = some (l.map e, s)) (h0 : I ρ)
    (hs : ∀ x ∈ l, ∀ ρ, I ρ → ∃ ρ1, bindT t (e x) ρ = some ρ1 ∧ if q x = true then ∃ ρ', exSs cl b ρ1 s = some (.nx ρ' s) ∧ I ρ' else exSs cl b ρ1 s = some (.rt (.bl false) s))
    (K : l.all q = true → ∀ ρ', I ρ' → exSs cl r ρ' s = some (.rt (.bl c) s)) : exSs cl (.cons (.for_ t it b) r) ρ s = some (.rt (.bl (l.all q && c)) s) := by
  refine run_q e (fun x => !q x) (.bl false) I l hi h0 (fun x hx ρ hI => ?_) (fun h => ?_) (fun h ρ' hI => ?_)
  · obtain ⟨ρ1, h1, h2⟩ := hs x hx ρ hI
    refine ⟨ρ1, h1, ?_⟩
    by_cases hq : q x = true <;> simpa [hq] using h2
  · have : l.all q = false := by
      rw [Bool.eq_false_iff]
      intro k
      rw [List.all_eq_true] at k
      rw [List.any_eq_true] at h
      obtain ⟨x, hx, z⟩ := h
      rw [k x hx] at z
      cases z
    rw [this]
    rfl
  · have : l.all q = true := by
      rw [List.all_eq_true]
      intro x hx
      rw [List.any_eq_false] at h
      simpa using h x hx
    rw [this, K this ρ' hI]
    rfl
/-- for ..: if q: return True -/
theorem run_any {α : Type} (e : α → D) (q : α → Bool) (I : En → Prop) (l : List α) (hi : evI cl it ρ s = some (l.map e, s)) (h0 : I ρ)
    (hs : ∀ x ∈ l, ∀ ρ, I ρ → ∃ ρ1, bindT t (e x) ρ = some ρ1 ∧ if q x = true then exSs cl b ρ1 s = some (.rt (.bl true) s) else ∃ ρ', exSs cl b ρ1 s = some (.nx ρ' s) ∧ I ρ')
    (K : ∀ ρ', I ρ' → exSs cl r ρ' s = some (.rt (.bl false) s)) : exSs cl (.cons (.for_ t it b) r) ρ s = some (.rt (.bl (l.any q)) s) := by
  refine run_q e q (.bl true) I l hi h0 hs (fun h => ?_) (fun h ρ' hI => ?_)
  · rw [h]
  · rw [h]
    exact K ρ' hI
end
theorem rng_map (a b : Int) : rngL a b = (List.range (b - a).toNat).map fun i => .int (a + (i : Nat)) := rfl
end
/-! ### data alike -/
mutual
def nb : D → Bool
  | .int _ => true
  | .str _ => true
  | .tup l => nbL l
  | .lst l => nbL l
  | _ => false
def nbL : List D → Bool
  | [] => true
  | d :: r => nb d && nbL r
end
mutual
theorem nb_simp : ∀ d : D, nb d = true → simp? d = true
  | .int _, _ => rfl
  | .str _, _ => rfl
  | .tup l, h => nbL_simp l h
  | .lst l, h => nbL_simp l h
  | .non, h => by cases h
  | .bl _, h => by cases h
  | .scr _, h => by cases h
  | .dic _, h => by cases h
  | .lev _, h => by cases h
  | .fn _, h => by cases h
  | .desk, h => by cases h
theorem nbL_simp : ∀ l : List D, nbL l = true → simpL l = true
  | [], _ => rfl
  | d :: r, h => by
    have h : (nb d && nbL r) = true := h
    rw [Bool.and_eq_true] at h
    show (simp? d && simpL r) = true
    rw [nb_simp d h.1, nbL_simp r h.2]
    rfl
end
mutual
theorem eqv_iff : ∀ a b : D, nb a = true → nb b = true → (PyData.eqv (toPy a) (toPy b) = true ↔ a = b)
  | .int i, .int j, _, _ => by simp [toPy, PyData.eqv]
  | .str i, .str j, _, _ => by simp [toPy, PyData.eqv]
  | .tup i, .tup j, h, h' => by
    have := eqvL_iff i j h h'
    simp [toPy, PyData.eqv, this]
  | .lst i, .lst j, h, h' => by
    have := eqvL_iff i j h h'
    simp [toPy, PyData.eqv, this]
  | .int i, .str j, _, _ => by simp [toPy, PyData.eqv]
  | .int i, .tup j, _, _ => by simp [toPy, PyData.eqv]
  | .int i, .lst j, _, _ => by simp [toPy, PyData.eqv]
  | .str i, .int j, _, _ => by simp [toPy, PyData.eqv]
  | .str i, .tup j, _, _ => by simp [toPy, PyData.eqv]
  | .str i, .lst j, _, _ => by simp [toPy, PyData.eqv]
  | .tup i, .int j, _, _ => by simp [toPy, PyData.eqv]
  | .tup i, .str j, _, _ => by simp [toPy, PyData.eqv]
  | .tup i, .lst j, _, _ => by simp [toPy, PyData.eqv]
  | .lst i, .int j, _, _ => by simp [toPy, PyData.eqv]
  | .lst i, .str j, _, _ => by simp [toPy, PyData.eqv]
  | .lst i, .tup j, _, _ => by simp [toPy, PyData.eqv]
theorem eqvL_iff : ∀ a b : List D, nbL a = true → nbL b = true → (PyData.eqvAll (toPyL a) (toPyL b) = true ↔ a = b)
  | [], [], _, _ => by simp [toPyL, PyData.eqvAll]
  | [], _ :: _, _, _ => by simp [toPyL, PyData.eqvAll]
  | _ :: _, [], _, _ => by simp [toPyL, PyData.eqvAll]
  | x :: xs, y :: ys, h, h' => by
    have h : (nb x && nbL xs) = true := h
    have h' : (nb y && nbL ys) = true := h'
    rw [Bool.and_eq_true] at h h'
    have h1 := eqv_iff x y h.1 h'.1
    have h2 := eqvL_iff xs ys h.2 h'.2
    simp [toPyL, PyData.eqvAll, h1, h2]
end
/-- data of ints, texts, tuples, lists, at most n deep -/
def Sd (n : Nat) (d : D) : Prop := nb d = true ∧ PyData.canLay0 (toPy d) = true ∧ PyData.depth (toPy d) ≤ n
theorem Sd.int {n : Nat} (i : Int) : Sd n (.int i) := ⟨rfl, rfl, by simp [toPy, PyData.depth]⟩
theorem Sd.str {n : Nat} {l : List Nat} (h : ∀ c ∈ l, c < 1114112) : Sd n (.str l) := ⟨rfl, by simp [toPy, PyData.canLay0, PyData.strOk]; exact h, by simp [toPy, PyData.depth]⟩
theorem Sd.all {n : Nat} : ∀ {l : List D}, (∀ d ∈ l, Sd n d) → nbL l = true ∧ PyData.canLayAll0 (toPyL l) = true ∧ PyData.depthAll (toPyL l) ≤ n
  | [], _ => ⟨rfl, rfl, by simp [toPyL, PyData.depthAll]⟩
  | d :: r, h => by
    obtain ⟨a1, a2, a3⟩ := h d (by simp)
    obtain ⟨b1, b2, b3⟩ := Sd.all (l := r) (fun x hx => h x (by simp [hx]))
    refine ⟨?_, ?_, ?_⟩
    · show (nb d && nbL r) = true
      rw [a1, b1]; rfl
    · simp [toPyL, PyData.canLayAll0, a2, b2]
    · simp only [toPyL, PyData.depthAll]
      omega
theorem Sd.tup {n : Nat} {l : List D} (h : ∀ d ∈ l, Sd n d) : Sd (n + 1) (.tup l) := by
  obtain ⟨a1, a2, a3⟩ := Sd.all h
  exact ⟨a1, a2, by simp only [toPy, PyData.depth]; omega⟩
theorem Sd.lst {n : Nat} {l : List D} (h : ∀ d ∈ l, Sd n d) : Sd (n + 1) (.lst l) := by
  obtain ⟨a1, a2, a3⟩ := Sd.all h
  exact ⟨a1, a2, by simp only [toPy, PyData.depth]; omega⟩
theorem Sd.mono {n m : Nat} {d : D} (h : Sd n d) (k : n ≤ m) : Sd m d := ⟨h.1, h.2.1, Nat.le_trans h.2.2 k⟩
theorem Sd.shp {n : Nat} {d : D} (h : Sd n d) (k : n ≤ 64) : shp d = true := by
  unfold Pk.shp SeqAt.shaped
  rw [nb_simp d h.1, h.2.1]
  have := h.2.2
  simp; omega
theorem eq_sd {n m : Nat} {a b : D} (ha : Sd n a) (hb : Sd m b) (hn : n ≤ 64) (hm : m ≤ 64) : ∃ c, eqD a b = some c ∧ (c = true ↔ a = b) := by
  have e : eqD a b = some (PyData.eqv (toPy a) (toPy b)) ∨ (∃ c, eqD a b = some c ∧ (c = true ↔ a = b)) := by
    have g : (shp a = true ∧ shp b = true) := ⟨ha.shp hn, hb.shp hm⟩
    cases a <;> first | (exact absurd ha.1 Bool.false_ne_true) | (cases b <;> first | (exact absurd hb.1 Bool.false_ne_true) | (exact .inr ⟨_, rfl, by simp⟩) | (left; simp only [eqD, g, and_self, if_true]))
  rcases e with e | e
  · exact ⟨_, e, eqv_iff a b ha.1 hb.1⟩
  · exact e
theorem any_eqv {x : D} (hx : nb x = true) : ∀ l : List D, nbL l = true → (((toPyL l).any fun z => PyData.eqv z (toPy x)) = true ↔ x ∈ l)
  | [], _ => by simp [toPyL]
  | d :: r, h => by
    have h : (nb d && nbL r) = true := h
    rw [Bool.and_eq_true] at h
    have h1 := eqv_iff d x h.1 hx
    have h2 := any_eqv hx r h.2
    simp only [toPyL, List.any_cons, Bool.or_eq_true, h1, h2, List.mem_cons]
    constructor
    · rintro (h | h)
      · exact .inl h.symm
      · exact .inr h
    · rintro (h | h)
      · exact .inl h.symm
      · exact .inr h
theorem in_tup {n m : Nat} {x : D} {l : List D} (hx : Sd n x) (hl : ∀ d ∈ l, Sd m d) (hn : n ≤ 64) (hm : m < 64) : ∃ c, inD x (.tup l) = some c ∧ (c = true ↔ x ∈ l) := by
  have g := (Sd.tup hl).shp (by omega)
  refine ⟨_, ?_, any_eqv hx.1 l (Sd.all hl).1⟩
  have h := hx.shp hn
  cases x <;> simp only [inD, h, g, and_self, if_true]
theorem in_lst {n m : Nat} {x : D} {l : List D} (hx : Sd n x) (hl : ∀ d ∈ l, Sd m d) (hn : n ≤ 64) (hm : m < 64) : ∃ c, inD x (.lst l) = some c ∧ (c = true ↔ x ∈ l) := by
  have g := (Sd.lst hl).shp (by omega)
  refine ⟨_, ?_, any_eqv hx.1 l (Sd.all hl).1⟩
  have h := hx.shp hn
  cases x <;> simp only [inD, h, g, and_self, if_true]
end Pk
end
section
-- PuEF
set_option linter.all false
set_option maxRecDepth 10000
/-! Worlds, sayings, the game. No program here. -/
namespace Pk
open PySem
structure W where
  n : Int
  ms : List (List Nat × List Int)
  as : List (List Nat × List (Int × Int))
/-- points of the marks and arrows lie in the world -/
structure Inn (w : W) : Prop where
  n1 : 1 ≤ w.n
  ms : ∀ m ∈ w.ms, ∀ x ∈ m.2, 0 ≤ x ∧ x < w.n
  as : ∀ m ∈ w.as, ∀ p ∈ m.2, (0 ≤ p.1 ∧ p.1 < w.n) ∧ 0 ≤ p.2 ∧ p.2 < w.n
def inM (w : W) (i : Nat) (x : Int) : Prop := ∃ m, w.ms[i]? = some m ∧ x ∈ m.2
def inA (w : W) (i : Nat) (x y : Int) : Prop := ∃ m, w.as[i]? = some m ∧ (x, y) ∈ m.2
def Iso (A B : W) (ps : List (Int × Int)) : Prop :=
  (∀ p ∈ ps, ∀ i, inM A i p.1 ↔ inM B i p.2) ∧ ∀ p ∈ ps, ∀ q ∈ ps, (p.1 = q.1 ↔ p.2 = q.2) ∧ ∀ i, inA A i p.1 q.1 ↔ inA B i p.2 q.2
def EQ (A B : W) : Nat → List (Int × Int) → Prop
  | 0, ps => Iso A B ps
  | d + 1, ps => Iso A B ps ∧ (∀ x, 0 ≤ x → x < A.n → ∃ y, 0 ≤ y ∧ y < B.n ∧ EQ A B d ((x, y) :: ps)) ∧ ∀ y, 0 ≤ y → y < B.n → ∃ x, 0 ≤ x ∧ x < A.n ∧ EQ A B d ((x, y) :: ps)
theorem Iso.sub {A B : W} {ps qs : List (Int × Int)} (h : Iso A B ps) (s : ∀ p ∈ qs, p ∈ ps) : Iso A B qs :=
  ⟨fun p hp => h.1 p (s p hp), fun p hp q hq => h.2 p (s p hp) q (s q hq)⟩
theorem EQ.iso {A B : W} : ∀ {d : Nat} {ps : List (Int × Int)}, EQ A B d ps → Iso A B ps
  | 0, _, h => h
  | _ + 1, _, h => h.1
theorem EQ.sub {A B : W} : ∀ {d : Nat} {ps qs : List (Int × Int)}, EQ A B d ps → (∀ p ∈ qs, p ∈ ps) → EQ A B d qs
  | 0, _, _, h, s => Iso.sub h s
  | d + 1, ps, qs, h, s => by
    have s2 : ∀ p, ∀ q ∈ p :: qs, q ∈ p :: ps := fun p q hq => by
      rcases List.mem_cons.mp hq with rfl | h
      · exact List.mem_cons_self
      · exact List.mem_cons_of_mem _ (s q h)
    refine ⟨h.1.sub s, fun x h0 h1 => ?_, fun y h0 h1 => ?_⟩
    · obtain ⟨y, a, b, c⟩ := h.2.1 x h0 h1
      exact ⟨y, a, b, EQ.sub c (s2 _)⟩
    · obtain ⟨x, a, b, c⟩ := h.2.2 y h0 h1
      exact ⟨x, a, b, EQ.sub c (s2 _)⟩
theorem EQ.down {A B : W} : ∀ {d : Nat} {ps : List (Int × Int)}, EQ A B (d + 1) ps → EQ A B d ps
  | 0, _, h => h.1
  | d + 1, ps, h => by
    refine ⟨h.1, fun x h0 h1 => ?_, fun y h0 h1 => ?_⟩
    · obtain ⟨y, a, b, c⟩ := h.2.1 x h0 h1
      exact ⟨y, a, b, EQ.down c⟩
    · obtain ⟨x, a, b, c⟩ := h.2.2 y h0 h1
      exact ⟨x, a, b, EQ.down c⟩
/-! ### side by side -/
def shM (k : Int) (a : List Nat × List Int) (b : List Nat × List Int) : List Nat × List Int := (a.1, a.2 ++ b.2.map fun x => x + k)
def shA (k : Int) (a : List Nat × List (Int × Int)) (b : List Nat × List (Int × Int)) : List Nat × List (Int × Int) := (a.1, a.2 ++ b.2.map fun p => (p.1 + k, p.2 + k))
def sumW (f g : W) : W := ⟨f.n + g.n, List.zipWith (shM f.n) f.ms g.ms, List.zipWith (shA f.n) f.as g.as⟩
/-- of one tongue -/
def Tg (f g : W) : Prop := f.ms.map Prod.fst = g.ms.map Prod.fst ∧ f.as.map Prod.fst = g.as.map Prod.fst
theorem Tg.lm {f g : W} (h : Tg f g) : f.ms.length = g.ms.length := by
  have := congrArg List.length h.1
  simpa using this
theorem Tg.la {f g : W} (h : Tg f g) : f.as.length = g.as.length := by
  have := congrArg List.length h.2
  simpa using this
theorem inM_sum {f g : W} (t : Tg f g) {i : Nat} {x : Int} : inM (sumW f g) i x ↔ inM f i x ∨ inM g i (x - f.n) := by
  have hl := t.lm
  unfold inM sumW
  simp only [List.getElem?_zipWith]
  rcases Nat.lt_or_ge i f.ms.length with h | h
  · rw [List.getElem?_eq_getElem h, List.getElem?_eq_getElem (hl ▸ h : i < g.ms.length)]
    simp only [Option.some.injEq, exists_eq_left', shM, List.mem_append, List.mem_map]
    constructor
    · rintro (h | ⟨y, h, e⟩)
      · exact .inl h
      · exact .inr (by rw [← e]; simpa using h)
    · rintro (h | h)
      · exact .inl h
      · exact .inr ⟨_, h, by omega⟩
  · rw [List.getElem?_eq_none h, List.getElem?_eq_none (by omega : g.ms.length ≤ i)]
    simp
theorem inA_sum {f g : W} (t : Tg f g) {i : Nat} {x y : Int} : inA (sumW f g) i x y ↔ inA f i x y ∨ inA g i (x - f.n) (y - f.n) := by
  have hl := t.la
  unfold inA sumW
  simp only [List.getElem?_zipWith]
  rcases Nat.lt_or_ge i f.as.length with h | h
  · rw [List.getElem?_eq_getElem h, List.getElem?_eq_getElem (hl ▸ h : i < g.as.length)]
    simp only [Option.some.injEq, exists_eq_left', shA, List.mem_append, List.mem_map]
    constructor
    · rintro (h | ⟨y, h, e⟩)
      · exact .inl h
      · simp only [Prod.mk.injEq] at e
        obtain ⟨e1, e2⟩ := e
        refine .inr ?_
        rw [← e1, ← e2]
        simpa using h
    · rintro (h | h)
      · exact .inl h
      · exact .inr ⟨_, h, by simp⟩
  · rw [List.getElem?_eq_none h, List.getElem?_eq_none (by omega : g.as.length ≤ i)]
    simp
theorem inM_in {w : W} (h : Inn w) {i : Nat} {x : Int} (m : inM w i x) : 0 ≤ x ∧ x < w.n := by
  obtain ⟨m, h1, h2⟩ := m
  exact h.ms m (List.mem_of_getElem? h1) x h2
theorem inA_in {w : W} (h : Inn w) {i : Nat} {x y : Int} (m : inA w i x y) : (0 ≤ x ∧ x < w.n) ∧ 0 ≤ y ∧ y < w.n := by
  obtain ⟨m, h1, h2⟩ := m
  exact h.as m (List.mem_of_getElem? h1) _ h2
/-- all pairs lie in the two worlds -/
def InP (A B : W) (ps : List (Int × Int)) : Prop := ∀ p ∈ ps, (0 ≤ p.1 ∧ p.1 < A.n) ∧ 0 ≤ p.2 ∧ p.2 < B.n
theorem InP.cons {A B : W} {ps : List (Int × Int)} {x y : Int} (h : InP A B ps) (a : 0 ≤ x) (b : x < A.n) (c : 0 ≤ y) (d : y < B.n) : InP A B ((x, y) :: ps) := fun p hp => by
  rcases List.mem_cons.mp hp with rfl | hp
  · exact ⟨⟨a, b⟩, c, d⟩
  · exact h p hp
section
variable {fa fb ga gb : W}
def shP (fa fb : W) (p : Int × Int) : Int × Int := (p.1 + fa.n, p.2 + fb.n)
theorem iso_sum (ta : Tg fa ga) (tb : Tg fb gb) (ifa : Inn fa) (ifb : Inn fb) (iga : Inn ga) (igb : Inn gb) {ps qs : List (Int × Int)} (hp : InP fa fb ps) (hq : InP ga gb qs) (h1 : Iso fa fb ps) (h2 : Iso ga gb qs) :
    Iso (sumW fa ga) (sumW fb gb) (ps ++ qs.map (shP fa fb)) := by
  have kM : ∀ p ∈ ps, ∀ i, (inM (sumW fa ga) i p.1 ↔ inM fa i p.1) ∧ (inM (sumW fb gb) i p.2 ↔ inM fb i p.2) := fun p m i => by
    have r := hp p m
    rw [inM_sum ta, inM_sum tb]
    refine ⟨⟨fun z => z.resolve_right fun z => ?_, .inl⟩, ⟨fun z => z.resolve_right fun z => ?_, .inl⟩⟩
    · have := inM_in iga z
      omega
    · have := inM_in igb z
      omega
  have kM2 : ∀ p ∈ qs, ∀ i, (inM (sumW fa ga) i (p.1 + fa.n) ↔ inM ga i p.1) ∧ (inM (sumW fb gb) i (p.2 + fb.n) ↔ inM gb i p.2) := fun p m i => by
    have r := hq p m
    rw [inM_sum ta, inM_sum tb, Int.add_sub_cancel, Int.add_sub_cancel]
    refine ⟨⟨fun z => z.resolve_left fun z => ?_, .inr⟩, ⟨fun z => z.resolve_left fun z => ?_, .inr⟩⟩
    · have := inM_in ifa z
      omega
    · have := inM_in ifb z
      omega
  refine ⟨fun p hpm i => ?_, fun p hpm q hqm => ?_⟩
  · rcases List.mem_append.mp hpm with m | m
    · rw [(kM p m i).1, (kM p m i).2]
      exact h1.1 p m i
    · obtain ⟨p', mp, rfl⟩ := List.mem_map.mp m
      clear m
      have m := mp
      show inM _ i (p'.1 + fa.n) ↔ inM _ i (p'.2 + fb.n)
      rw [(kM2 p' m i).1, (kM2 p' m i).2]
      exact h2.1 p' m i
  · rcases List.mem_append.mp hpm with m | m <;> rcases List.mem_append.mp hqm with m' | m'
    · have r := hp p m
      have r' := hp q m'
      refine ⟨(h1.2 p m q m').1, fun i => ?_⟩
      rw [inA_sum ta, inA_sum tb]
      have := (h1.2 p m q m').2 i
      constructor
      · rintro (z | z)
        · exact .inl (this.mp z)
        · have := inA_in iga z
          omega
      · rintro (z | z)
        · exact .inl (this.mpr z)
        · have := inA_in igb z
          omega
    · obtain ⟨q', mq, rfl⟩ := List.mem_map.mp m'
      clear m'
      have m' := mq
      have r := hp p m
      have r' := hq q' m'
      simp only [shP]
      refine ⟨by omega, fun i => ?_⟩
      rw [inA_sum ta, inA_sum tb]
      constructor
      · rintro (z | z)
        · have := inA_in ifa z
          omega
        · have := inA_in iga z
          omega
      · rintro (z | z)
        · have := inA_in ifb z
          omega
        · have := inA_in igb z
          omega
    · obtain ⟨p', mp, rfl⟩ := List.mem_map.mp m
      clear m
      have m := mp
      have r := hq p' m
      have r' := hp q m'
      simp only [shP]
      refine ⟨by omega, fun i => ?_⟩
      rw [inA_sum ta, inA_sum tb]
      constructor
      · rintro (z | z)
        · have := inA_in ifa z
          omega
        · have := inA_in iga z
          omega
      · rintro (z | z)
        · have := inA_in ifb z
          omega
        · have := inA_in igb z
          omega
    · obtain ⟨p', mp, rfl⟩ := List.mem_map.mp m
      clear m
      have m := mp
      obtain ⟨q', mq, rfl⟩ := List.mem_map.mp m'
      clear m'
      have m' := mq
      have r := hq p' m
      have r' := hq q' m'
      have := h2.2 p' m q' m'
      simp only [shP]
      refine ⟨by omega, fun i => ?_⟩
      have := this.2 i
      rw [inA_sum ta, inA_sum tb, Int.add_sub_cancel, Int.add_sub_cancel, Int.add_sub_cancel, Int.add_sub_cancel]
      constructor
      · rintro (z | z)
        · have := inA_in ifa z
          omega
        · exact .inr (this.mp z)
      · rintro (z | z)
        · have := inA_in ifb z
          omega
        · exact .inr (this.mpr z)
theorem eq_sum (ta : Tg fa ga) (tb : Tg fb gb) (ifa : Inn fa) (ifb : Inn fb) (iga : Inn ga) (igb : Inn gb) : ∀ (d : Nat) {ps qs : List (Int × Int)}, InP fa fb ps → InP ga gb qs → EQ fa fb d ps → EQ ga gb d qs → EQ (sumW fa ga) (sumW fb gb) d (ps ++ qs.map (shP fa fb))
  | 0, ps, qs, hp, hq, h1, h2 => iso_sum ta tb ifa ifb iga igb hp hq h1 h2
  | d + 1, ps, qs, hp, hq, h1, h2 => by
    have na : (sumW fa ga).n = fa.n + ga.n := rfl
    have nb : (sumW fb gb).n = fb.n + gb.n := rfl
    have f1 := ifa.n1
    have f2 := ifb.n1
    have f3 := iga.n1
    have f4 := igb.n1
    refine ⟨iso_sum ta tb ifa ifb iga igb hp hq h1.1 h2.1, fun x h0 hx => ?_, fun y h0 hy => ?_⟩
    · rw [na] at hx
      by_cases hf : x < fa.n
      · obtain ⟨y, y0, y1, e⟩ := h1.2.1 x h0 hf
        refine ⟨y, y0, by rw [nb]; omega, ?_⟩
        exact (eq_sum ta tb ifa ifb iga igb d (hp.cons h0 hf y0 y1) hq e h2.down).sub fun p hp => by simpa using hp
      · obtain ⟨y, y0, y1, e⟩ := h2.2.1 (x - fa.n) (by omega) (by omega)
        refine ⟨y + fb.n, by omega, by rw [nb]; omega, ?_⟩
        exact (eq_sum ta tb ifa ifb iga igb d hp (hq.cons (by omega) (by omega) y0 y1) h1.down e).sub fun p hp => by
          simp only [List.map_cons, List.mem_append, List.mem_cons, shP] at hp ⊢
          rcases hp with rfl | hp | hp
          · refine .inr (.inl ?_)
            simp
          · exact .inl hp
          · exact .inr (.inr hp)
    · rw [nb] at hy
      by_cases hf : y < fb.n
      · obtain ⟨x, y0, y1, e⟩ := h1.2.2 y h0 hf
        refine ⟨x, y0, by rw [na]; omega, ?_⟩
        exact (eq_sum ta tb ifa ifb iga igb d (hp.cons y0 y1 h0 hf) hq e h2.down).sub fun p hp => by simpa using hp
      · obtain ⟨x, y0, y1, e⟩ := h2.2.2 (y - fb.n) (by omega) (by omega)
        refine ⟨x + fa.n, by omega, by rw [na]; omega, ?_⟩
        exact (eq_sum ta tb ifa ifb iga igb d hp (hq.cons y0 y1 (by omega) (by omega)) h1.down e).sub fun p hp => by
          simp only [List.map_cons, List.mem_append, List.mem_cons, shP] at hp ⊢
          rcases hp with rfl | hp | hp
          · refine .inr (.inl ?_)
            simp
          · exact .inl hp
          · exact .inr (.inr hp)
end
/-! ### sayings -/
inductive Sy where
  | mark (n : List Nat) (l : Nat)
  | arrow (n : List Nat) (l m : Nat)
  | same (l m : Nat)
  | neg (φ : Sy)
  | jn (b : Bool) (l : List Sy)
  | qu (b : Bool) (l : Nat) (φ : Sy)
def upd1 (e : Nat → Int) (c : Nat) (x : Int) : Nat → Int := fun a => if a = c then x else e a
mutual
/-- jn true: and; qu true: some -/
def sem (w : W) : Sy → (Nat → Int) → Bool
  | .mark n l, e => match lookS n w.ms with
    | some xs => decide (e l ∈ xs)
    | none => false
  | .arrow n l m, e => match lookS n w.as with
    | some xs => decide ((e l, e m) ∈ xs)
    | none => false
  | .same l m, e => decide (e l = e m)
  | .neg φ, e => !sem w φ e
  | .jn true l, e => semA w l e
  | .jn false l, e => semO w l e
  | .qu true c φ, e => (List.range w.n.toNat).any fun i => sem w φ (upd1 e c i)
  | .qu false c φ, e => (List.range w.n.toNat).all fun i => sem w φ (upd1 e c i)
def semA (w : W) : List Sy → (Nat → Int) → Bool
  | [], _ => true
  | φ :: r, e => sem w φ e && semA w r e
def semO (w : W) : List Sy → (Nat → Int) → Bool
  | [], _ => false
  | φ :: r, e => sem w φ e || semO w r e
end
mutual
def dp : Sy → Nat
  | .neg φ => dp φ
  | .jn _ l => dpL l
  | .qu _ _ φ => dp φ + 1
  | _ => 0
def dpL : List Sy → Nat
  | [] => 0
  | φ :: r => max (dp φ) (dpL r)
end
mutual
def fr : Sy → List Nat
  | .mark _ l => [l]
  | .arrow _ l m => [l, m]
  | .same l m => [l, m]
  | .neg φ => fr φ
  | .jn _ l => frL l
  | .qu _ c φ => (fr φ).filter fun a => a != c
def frL : List Sy → List Nat
  | [] => []
  | φ :: r => fr φ ++ frL r
end
theorem look_same {α β : Type} (n : List Nat) : ∀ (a : List (List Nat × α)) (b : List (List Nat × β)), a.map Prod.fst = b.map Prod.fst → (lookS n a = none ∧ lookS n b = none) ∨ ∃ (i : Nat) (x : α) (y : β), a[i]? = some (n, x) ∧ b[i]? = some (n, y) ∧ lookS n a = some x ∧ lookS n b = some y
  | [], [], _ => .inl ⟨rfl, rfl⟩
  | [], _ :: _, h => by cases h
  | _ :: _, [], h => by cases h
  | (k, x) :: a, (k', y) :: b, h => by
    simp only [List.map_cons, List.cons.injEq] at h
    obtain ⟨rfl, h⟩ := h
    by_cases e : k = n
    · subst e
      exact .inr ⟨0, x, y, rfl, rfl, by simp [lookS], by simp [lookS]⟩
    · rcases look_same n a b h with ⟨h1, h2⟩ | ⟨i, x', y', h1, h2, h3, h4⟩
      · exact .inl ⟨by simp [lookS, e, h1], by simp [lookS, e, h2]⟩
      · exact .inr ⟨i + 1, x', y', by simpa using h1, by simpa using h2, by simp [lookS, e, h3], by simp [lookS, e, h4]⟩
section
variable {A B : W}
theorem sem_mark (t : Tg A B) {ps : List (Int × Int)} (h : Iso A B ps) (n : List Nat) {x y : Int} (m : (x, y) ∈ ps) :
    (match lookS n A.ms with | some xs => decide (x ∈ xs) | none => false) = match lookS n B.ms with | some xs => decide (y ∈ xs) | none => false := by
  rcases look_same n A.ms B.ms t.1 with ⟨h1, h2⟩ | ⟨i, u, v, h1, h2, h3, h4⟩
  · simp only [h1, h2]
  · simp only [h3, h4]
    have := h.1 _ m i
    unfold inM at this
    rw [h1, h2] at this
    simpa using this
theorem sem_arrow (t : Tg A B) {ps : List (Int × Int)} (h : Iso A B ps) (n : List Nat) {x y x' y' : Int} (m : (x, y) ∈ ps) (m' : (x', y') ∈ ps) :
    (match lookS n A.as with | some xs => decide ((x, x') ∈ xs) | none => false) = match lookS n B.as with | some xs => decide ((y, y') ∈ xs) | none => false := by
  rcases look_same n A.as B.as t.2 with ⟨h1, h2⟩ | ⟨i, u, v, h1, h2, h3, h4⟩
  · simp only [h1, h2]
  · simp only [h3, h4]
    have := (h.2 _ m _ m').2 i
    unfold inA at this
    rw [h1, h2] at this
    simpa using this
theorem quAny {P Q : Nat → Bool} {m n : Nat} (h1 : ∀ i < m, ∃ j < n, P i = Q j) (h2 : ∀ j < n, ∃ i < m, P i = Q j) : (List.range m).any P = (List.range n).any Q := by
  rw [Bool.eq_iff_iff]
  simp only [List.any_eq_true, List.mem_range]
  constructor
  · rintro ⟨i, hi, p⟩
    obtain ⟨j, hj, e⟩ := h1 i hi
    exact ⟨j, hj, by rw [← e]; exact p⟩
  · rintro ⟨j, hj, p⟩
    obtain ⟨i, hi, e⟩ := h2 j hj
    exact ⟨i, hi, by rw [e]; exact p⟩
theorem quAll {P Q : Nat → Bool} {m n : Nat} (h1 : ∀ i < m, ∃ j < n, P i = Q j) (h2 : ∀ j < n, ∃ i < m, P i = Q j) : (List.range m).all P = (List.range n).all Q := by
  rw [Bool.eq_iff_iff]
  simp only [List.all_eq_true, List.mem_range]
  constructor
  · intro p j hj
    obtain ⟨i, hi, e⟩ := h2 j hj
    rw [← e]; exact p i hi
  · intro p i hi
    obtain ⟨j, hj, e⟩ := h1 i hi
    rw [e]; exact p j hj
mutual
theorem sem_eq (t : Tg A B) : ∀ (φ : Sy) (d : Nat) (ps : List (Int × Int)) (eA eB : Nat → Int), EQ A B d ps → dp φ ≤ d → (∀ c ∈ fr φ, (eA c, eB c) ∈ ps) → sem A φ eA = sem B φ eB
  | .mark n l, d, ps, eA, eB, h, hd, hf => by
    simp only [sem]
    exact sem_mark t h.iso n (hf l (by simp [fr]))
  | .arrow n l m, d, ps, eA, eB, h, hd, hf => by
    simp only [sem]
    exact sem_arrow t h.iso n (hf l (by simp [fr])) (hf m (by simp [fr]))
  | .same l m, d, ps, eA, eB, h, hd, hf => by
    simp only [sem]
    have := (h.iso.2 _ (hf l (by simp [fr])) _ (hf m (by simp [fr]))).1
    simpa using this
  | .neg φ, d, ps, eA, eB, h, hd, hf => by
    simp only [sem]
    rw [sem_eq t φ d ps eA eB h hd hf]
  | .jn true l, d, ps, eA, eB, h, hd, hf => by
    simp only [sem]
    exact (semL_eq t l d ps eA eB h hd hf).1
  | .jn false l, d, ps, eA, eB, h, hd, hf => by
    simp only [sem]
    exact (semL_eq t l d ps eA eB h hd hf).2
  | .qu b c φ, 0, ps, eA, eB, h, hd, hf => by
    simp [dp] at hd
  | .qu b c φ, d + 1, ps, eA, eB, h, hd, hf => by
    have key : ∀ x y, EQ A B d ((x, y) :: ps) → sem A φ (upd1 eA c x) = sem B φ (upd1 eB c y) := fun x y e => by
      refine sem_eq t φ d _ _ _ e (by simpa [dp] using hd) fun a ha => ?_
      unfold upd1
      by_cases k : a = c
      · simp [k]
      · simp only [k, if_false]
        exact List.mem_cons_of_mem _ (hf a (by simp [fr, ha, k]))
    have h1 : ∀ i < A.n.toNat, ∃ j < B.n.toNat, sem A φ (upd1 eA c i) = sem B φ (upd1 eB c j) := fun i hi => by
      obtain ⟨y, a1, a2, e⟩ := h.2.1 i (by omega) (by omega)
      refine ⟨y.toNat, by omega, ?_⟩
      rw [Int.toNat_of_nonneg a1]
      exact key _ _ e
    have h2 : ∀ j < B.n.toNat, ∃ i < A.n.toNat, sem A φ (upd1 eA c i) = sem B φ (upd1 eB c j) := fun i hi => by
      obtain ⟨y, a1, a2, e⟩ := h.2.2 i (by omega) (by omega)
      refine ⟨y.toNat, by omega, ?_⟩
      rw [Int.toNat_of_nonneg a1]
      exact key _ _ e
    cases b
    · simp only [sem]
      exact quAll h1 h2
    · simp only [sem]
      exact quAny h1 h2
theorem semL_eq (t : Tg A B) : ∀ (l : List Sy) (d : Nat) (ps : List (Int × Int)) (eA eB : Nat → Int), EQ A B d ps → dpL l ≤ d → (∀ c ∈ frL l, (eA c, eB c) ∈ ps) → semA A l eA = semA B l eB ∧ semO A l eA = semO B l eB
  | [], _, _, _, _, _, _, _ => by simp [semA, semO]
  | φ :: r, d, ps, eA, eB, h, hd, hf => by
    have a := sem_eq t φ d ps eA eB h (by simp [dpL] at hd; omega) (fun c hc => hf c (by simp [frL, hc]))
    have b := semL_eq t r d ps eA eB h (by simp [dpL] at hd; omega) (fun c hc => hf c (by simp [frL, hc]))
    simp [semA, semO, a, b]
end
end
end Pk
end
section
-- PuLay
set_option linter.all false
set_option maxRecDepth 10000
/-! Layers and the game. No program here. -/
namespace Pk
open PySem
abbrev PS := List (Int × Int)
def rngI (n : Int) : List Int := (List.range n.toNat).map fun i => ((i : Nat) : Int)
theorem mem_rngI {n x : Int} : x ∈ rngI n ↔ 0 ≤ x ∧ x < n := by
  unfold rngI
  simp only [List.mem_map, List.mem_range]
  constructor
  · rintro ⟨i, h, rfl⟩
    omega
  · intro h
    exact ⟨x.toNat, by omega, by omega⟩
def smB (A B : W) (p : Int × Int) : Bool := (A.ms.zip B.ms).all fun m => decide (p.1 ∈ m.1.2) == decide (p.2 ∈ m.2.2)
def agB (A B : W) (p q : Int × Int) : Bool := (decide (p.1 = q.1) == decide (p.2 = q.2)) && (A.as.zip B.as).all fun m => (decide ((p.1, q.1) ∈ m.1.2) == decide ((p.2, q.2) ∈ m.2.2)) && (decide ((q.1, p.1) ∈ m.1.2) == decide ((q.2, p.2) ∈ m.2.2))
def joB (A B : W) (ps : PS) (p : Int × Int) : Bool := (smB A B p && agB A B p p) && ps.all fun q => agB A B p q
def lastLt (ps : PS) (p : Int × Int) : Bool := match ps.getLast? with
  | none => true
  | some q => ltP q p
def furL (A B : W) (ps : PS) : List PS := (rngI A.n).flatMap fun a => ((rngI B.n).filter fun b => lastLt ps (a, b) && joB A B ps (a, b)).map fun b => ps ++ [(a, b)]
def lvlL (A B : W) : Nat → List PS
  | 0 => [[]]
  | k + 1 => (lvlL A B k).flatMap (furL A B)
def pairL (A B : W) : Nat → List PS
  | 0 => [[]]
  | k + 1 => pairL A B k ++ lvlL A B (k + 1)
def wiP (ps : PS) (p : Int × Int) : PS := sortU ltP (ps ++ [p])
def savB (ps : PS) (ways : PS) (lev : List PS) : Bool := ways.any fun p => decide (wiP ps p ∈ lev)
def heL (A : W) (ps : PS) : List Int := (rngI A.n).filter fun a => !decide (a ∈ ps.map Prod.fst)
def thL (B : W) (ps : PS) : List Int := (rngI B.n).filter fun b => !decide (b ∈ ps.map Prod.snd)
def ansB (A B : W) (ps : PS) (lev : List PS) : Bool :=
  (decide (ps = []) || decide (ps ∈ lev)) && (((heL A ps).all fun a => savB ps ((thL B ps).map fun b => (a, b)) lev) && (thL B ps).all fun b => savB ps ((heL A ps).map fun a => (a, b)) lev)
def nexL (A B : W) (lay : List PS) : List PS := lay.filter fun ps => ansB A B ps lay
def layL (A B : W) : Nat → List PS
  | 0 => pairL A B 4
  | k + 1 => nexL A B (layL A B k)
/-! ### rising lists of pairs -/
abbrev Rise (ps : PS) : Prop := ps.Pairwise fun p q => ltP p q = true
theorem ltP_iff {p q : Int × Int} : ltP p q = true ↔ p.1 < q.1 ∨ (p.1 = q.1 ∧ p.2 < q.2) := by simp [ltP]
theorem ltP_trans {p q r : Int × Int} (h : ltP p q = true) (k : ltP q r = true) : ltP p r = true := by
  rw [ltP_iff] at *
  omega
theorem ltP_tri {p q : Int × Int} (h : p ≠ q) (k : ¬ ltP p q = true) : ltP q p = true := by
  rw [ltP_iff] at *
  have : ¬ (p.1 = q.1 ∧ p.2 = q.2) := fun z => h (Prod.ext z.1 z.2)
  omega
section
variable {α : Type} [DecidableEq α] {lt : α → α → Bool}
theorem mem_insU (x y : α) : ∀ l : List α, y ∈ insU lt x l ↔ y = x ∨ y ∈ l
  | [] => by simp [insU]
  | z :: r => by
    unfold insU
    split
    · rename_i e
      subst e
      simp only [List.mem_cons]
      constructor
      · exact .inr
      · rintro (h | h)
        · exact .inl h
        · exact h
    · split
      · simp
      · simp only [List.mem_cons, mem_insU x y r]
        constructor
        · rintro (h | h | h) <;> simp [h]
        · rintro (h | h | h) <;> simp [h]
theorem mem_sortU (y : α) : ∀ l : List α, y ∈ sortU lt l ↔ y ∈ l
  | [] => by simp [sortU]
  | x :: r => by
    have := mem_sortU y r
    unfold sortU at this ⊢
    rw [List.foldr_cons, mem_insU, this]
    simp
theorem rise_insU (tr : ∀ a b c : α, lt a b = true → lt b c = true → lt a c = true) (tri : ∀ a b : α, a ≠ b → ¬ lt a b = true → lt b a = true) (x : α) : ∀ l : List α, l.Pairwise (fun a b => lt a b = true) → (insU lt x l).Pairwise fun a b => lt a b = true
  | [], _ => by simp [insU]
  | z :: r, h => by
    have hc := List.pairwise_cons.mp h
    unfold insU
    split
    · exact h
    · rename_i ne
      split
      · rename_i l
        exact List.pairwise_cons.mpr ⟨fun a ha => by
          rcases List.mem_cons.mp ha with rfl | ha
          · exact l
          · exact tr _ _ _ l (hc.1 a ha), h⟩
      · rename_i l
        exact List.pairwise_cons.mpr ⟨fun a ha => by
          rcases (mem_insU x a r).mp ha with rfl | ha
          · exact tri _ _ ne l
          · exact hc.1 a ha, rise_insU tr tri x r hc.2⟩
theorem rise_sortU (tr : ∀ a b c : α, lt a b = true → lt b c = true → lt a c = true) (tri : ∀ a b : α, a ≠ b → ¬ lt a b = true → lt b a = true) : ∀ l : List α, (sortU lt l).Pairwise fun a b => lt a b = true
  | [] => by simp [sortU]
  | x :: r => by
    have := rise_sortU tr tri r
    unfold sortU at this ⊢
    rw [List.foldr_cons]
    exact rise_insU tr tri x _ this
end
theorem mem_wiP {ps : PS} {p q : Int × Int} : q ∈ wiP ps p ↔ q = p ∨ q ∈ ps := by
  unfold wiP
  rw [mem_sortU]
  simp [or_comm]
theorem rise_wiP (ps : PS) (p : Int × Int) : Rise (wiP ps p) := rise_sortU (lt := ltP) (fun _ _ _ h k => ltP_trans h k) (fun _ _ h k => ltP_tri h k) _
/-! ### marks and arrows by place -/
section
variable {A B : W}
theorem smB_iff (t : Tg A B) {p : Int × Int} : smB A B p = true ↔ ∀ i, inM A i p.1 ↔ inM B i p.2 := by
  have hl := t.lm
  unfold smB
  rw [List.all_eq_true]
  constructor
  · intro h i
    unfold inM
    rcases Nat.lt_or_ge i A.ms.length with hi | hi
    · have hi' : i < B.ms.length := hl ▸ hi
      have := h (A.ms[i], B.ms[i]) (by
        rw [List.mem_iff_getElem]
        exact ⟨i, by simp; omega, by simp⟩)
      rw [List.getElem?_eq_getElem hi, List.getElem?_eq_getElem hi']
      simpa using this
    · rw [List.getElem?_eq_none hi, List.getElem?_eq_none (by omega)]
      simp
  · intro h m hm
    obtain ⟨i, hi, e⟩ := List.mem_iff_getElem.mp hm
    simp only [List.length_zip] at hi
    have := h i
    unfold inM at this
    rw [List.getElem?_eq_getElem (by omega), List.getElem?_eq_getElem (by omega)] at this
    rw [← e]
    simpa using this
theorem arB_iff (t : Tg A B) {f : (List Nat × PS) → (List Nat × PS) → Bool} {P : Nat → Prop} (hP : ∀ i (h : i < A.as.length) (h' : i < B.as.length), f A.as[i] B.as[i] = true ↔ P i) (h0 : ∀ i, A.as.length ≤ i → P i) : (A.as.zip B.as).all (fun m => f m.1 m.2) = true ↔ ∀ i, P i := by
  have hl := t.la
  rw [List.all_eq_true]
  constructor
  · intro h i
    rcases Nat.lt_or_ge i A.as.length with hi | hi
    · have hi' : i < B.as.length := hl ▸ hi
      exact (hP i hi hi').mp (h (A.as[i], B.as[i]) (by
        rw [List.mem_iff_getElem]
        exact ⟨i, by simp; omega, by simp⟩))
    · exact h0 i hi
  · intro h m hm
    obtain ⟨i, hi, e⟩ := List.mem_iff_getElem.mp hm
    simp only [List.length_zip] at hi
    rw [← e]
    simpa using (hP i (by omega) (by omega)).mpr (h i)
theorem agB_iff (t : Tg A B) {p q : Int × Int} : agB A B p q = true ↔ (p.1 = q.1 ↔ p.2 = q.2) ∧ ∀ i, (inA A i p.1 q.1 ↔ inA B i p.2 q.2) ∧ (inA A i q.1 p.1 ↔ inA B i q.2 p.2) := by
  unfold agB
  rw [Bool.and_eq_true]
  have e := arB_iff t (f := fun a b => (decide ((p.1, q.1) ∈ a.2) == decide ((p.2, q.2) ∈ b.2)) && (decide ((q.1, p.1) ∈ a.2) == decide ((q.2, p.2) ∈ b.2))) (P := fun i => (inA A i p.1 q.1 ↔ inA B i p.2 q.2) ∧ (inA A i q.1 p.1 ↔ inA B i q.2 p.2)) (fun i h h' => by
    unfold inA
    rw [List.getElem?_eq_getElem h, List.getElem?_eq_getElem h']
    simp) (fun i h => by
    have hl := t.la
    unfold inA
    rw [List.getElem?_eq_none h, List.getElem?_eq_none (by omega)]
    simp)
  rw [e]
  simp
theorem iso_iff (t : Tg A B) {ps : PS} : Iso A B ps ↔ (∀ p ∈ ps, smB A B p = true) ∧ ∀ p ∈ ps, ∀ q ∈ ps, agB A B p q = true := by
  unfold Iso
  constructor
  · rintro ⟨h1, h2⟩
    refine ⟨fun p hp => (smB_iff t).mpr (h1 p hp), fun p hp q hq => (agB_iff t).mpr ⟨(h2 p hp q hq).1, fun i => ⟨(h2 p hp q hq).2 i, (h2 q hq p hp).2 i⟩⟩⟩
  · rintro ⟨h1, h2⟩
    refine ⟨fun p hp => (smB_iff t).mp (h1 p hp), fun p hp q hq => ?_⟩
    have := (agB_iff t).mp (h2 p hp q hq)
    exact ⟨this.1, fun i => (this.2 i).1⟩
theorem agB_symm (t : Tg A B) {p q : Int × Int} (h : agB A B p q = true) : agB A B q p = true := by
  rw [agB_iff t] at *
  exact ⟨by rw [eq_comm, h.1, eq_comm], fun i => ⟨(h.2 i).2, (h.2 i).1⟩⟩
theorem iso_snoc (t : Tg A B) {ps : PS} {p : Int × Int} : Iso A B (ps ++ [p]) ↔ Iso A B ps ∧ joB A B ps p = true := by
  rw [iso_iff t, iso_iff t]
  unfold joB
  simp only [Bool.and_eq_true, List.all_eq_true, List.mem_append, List.mem_singleton]
  constructor
  · rintro ⟨h1, h2⟩
    exact ⟨⟨fun q hq => h1 q (.inl hq), fun q hq r hr => h2 q (.inl hq) r (.inl hr)⟩, ⟨h1 p (.inr rfl), h2 p (.inr rfl) p (.inr rfl)⟩, fun q hq => h2 p (.inr rfl) q (.inl hq)⟩
  · rintro ⟨⟨h1, h2⟩, ⟨h3, h4⟩, h5⟩
    refine ⟨?_, ?_⟩
    · rintro q (hq | rfl)
      · exact h1 q hq
      · exact h3
    · rintro q (hq | rfl) r (hr | rfl)
      · exact h2 q hq r hr
      · exact agB_symm t (h5 q hq)
      · exact h5 r hr
      · exact h4
/-! ### what the pairings are -/
theorem lastLt_iff {ps : PS} {p : Int × Int} (h : Rise ps) : lastLt ps p = true ↔ Rise (ps ++ [p]) := by
  unfold lastLt Rise
  rw [List.pairwise_append]
  rcases List.eq_nil_or_concat ps with rfl | ⟨qs, q, rfl⟩
  · simp
  · simp only [List.concat_eq_append] at *
    rw [List.getLast?_concat]
    simp only [List.mem_append, List.mem_singleton, h, List.pairwise_singleton, true_and, forall_eq]
    have hs := (List.pairwise_append.mp h).2.2
    constructor
    · rintro k a (ha | rfl)
      · exact ltP_trans (hs a ha q (by simp)) k
      · exact k
    · intro k
      exact k q (.inr rfl)
theorem mem_furL {ps qs : PS} : qs ∈ furL A B ps ↔ ∃ p, qs = ps ++ [p] ∧ ((0 ≤ p.1 ∧ p.1 < A.n) ∧ 0 ≤ p.2 ∧ p.2 < B.n) ∧ lastLt ps p = true ∧ joB A B ps p = true := by
  unfold furL
  simp only [List.mem_flatMap, List.mem_map, List.mem_filter, mem_rngI, Bool.and_eq_true]
  constructor
  · rintro ⟨a, ha, b, ⟨hb, h1, h2⟩, rfl⟩
    exact ⟨(a, b), rfl, ⟨ha, hb⟩, h1, h2⟩
  · rintro ⟨p, rfl, ⟨ha, hb⟩, h1, h2⟩
    exact ⟨p.1, ha, p.2, ⟨hb, h1, h2⟩, rfl⟩
theorem mem_lvlL (t : Tg A B) : ∀ (k : Nat) {ps : PS}, ps ∈ lvlL A B k ↔ ps.length = k ∧ Rise ps ∧ InP A B ps ∧ Iso A B ps
  | 0, ps => by
    simp only [lvlL, List.mem_singleton, List.length_eq_zero_iff]
    constructor
    · rintro rfl
      exact ⟨rfl, by simp [Rise], fun p hp => by simp at hp, fun p hp => by simp at hp, fun p hp => by simp at hp⟩
    · exact fun h => h.1
  | k + 1, ps => by
    simp only [lvlL, List.mem_flatMap]
    constructor
    · rintro ⟨qs, hq, h⟩
      obtain ⟨h1, h2, h3, h4⟩ := (mem_lvlL t k).mp hq
      obtain ⟨p, rfl, hp, hl, hj⟩ := mem_furL.mp h
      refine ⟨by simp [h1], (lastLt_iff h2).mp hl, fun q hq => ?_, (iso_snoc t).mpr ⟨h4, hj⟩⟩
      rcases List.mem_append.mp hq with m | m
      · exact h3 q m
      · rw [List.mem_singleton.mp m]
        exact hp
    · rintro ⟨h1, h2, h3, h4⟩
      rcases List.eq_nil_or_concat ps with rfl | ⟨qs, p, rfl⟩
      · simp at h1
      · simp only [List.concat_eq_append] at *
        have hr := (List.pairwise_append.mp h2).1
        refine ⟨qs, (mem_lvlL t k).mpr ⟨by simpa using h1, hr, fun q hq => h3 q (by simp [hq]), ((iso_snoc t).mp h4).1⟩, mem_furL.mpr ⟨p, rfl, h3 p (by simp), (lastLt_iff hr).mpr h2, ((iso_snoc t).mp h4).2⟩⟩
theorem mem_pairL (t : Tg A B) : ∀ (k : Nat) {ps : PS}, ps ∈ pairL A B k ↔ ps.length ≤ k ∧ Rise ps ∧ InP A B ps ∧ Iso A B ps
  | 0, ps => by
    have := mem_lvlL t 0 (ps := ps)
    simp only [lvlL] at this
    simp only [pairL, this]
    simp
  | k + 1, ps => by
    simp only [pairL, List.mem_append, mem_pairL t k, mem_lvlL t (k + 1)]
    constructor
    · rintro (h | h)
      · exact ⟨by omega, h.2⟩
      · exact ⟨by omega, h.2⟩
    · rintro ⟨h, h'⟩
      by_cases e : ps.length = k + 1
      · exact .inr ⟨e, h'⟩
      · exact .inl ⟨by omega, h'⟩
/-! ### no more than n of n -/
theorem few : ∀ (n : Nat) (l : List Int), l.Nodup → (∀ x ∈ l, 0 ≤ x ∧ x < n) → l.length ≤ n
  | 0, l, _, h => by
    cases l with
    | nil => simp
    | cons a r => have := h a (by simp); omega
  | n + 1, l, hn, h => by
    have := few n (l.erase (n : Int)) (hn.erase _) (fun x hx => by
      have h1 := h x (List.mem_of_mem_erase hx)
      have h2 : x ≠ (n : Int) := fun e => by
        rw [e] at hx
        exact (List.Nodup.not_mem_erase hn) hx
      omega)
    have e := List.length_erase (a := (n : Int)) (l := l)
    split at e <;> omega
theorem iso_len {ps : PS} (h : Rise ps) (i : InP A B ps) (s : Iso A B ps) (hA : A.n ≤ 4) : ps.length ≤ 4 := by
  have := few 4 (ps.map Prod.fst) (by
    unfold List.Nodup
    rw [List.pairwise_map]
    refine List.Pairwise.imp_of_mem (fun {p q} hp hq l e => ?_) h
    have := (s.2 p hp q hq).1.mp e
    rw [ltP_iff] at l
    omega) (fun x hx => by
    obtain ⟨p, hp, rfl⟩ := List.mem_map.mp hx
    have := i p hp
    exact ⟨this.1.1, by omega⟩)
  simpa using this
/-- layers are the game's -/
theorem mem_layL (t : Tg A B) (hA : A.n ≤ 4) : ∀ (d : Nat) {ps : PS}, Rise ps → InP A B ps → (ps ∈ layL A B d ↔ EQ A B d ps)
  | 0, ps, hr, hi => by
    simp only [layL, mem_pairL t, EQ]
    exact ⟨fun h => h.2.2.2, fun h => ⟨iso_len hr hi h hA, hr, hi, h⟩⟩
  | d + 1, ps, hr, hi => by
    have wr : ∀ p : Int × Int, ((0 ≤ p.1 ∧ p.1 < A.n) ∧ 0 ≤ p.2 ∧ p.2 < B.n) → (wiP ps p ∈ layL A B d ↔ EQ A B d (p :: ps)) := fun p hp => by
      rw [mem_layL t hA d (rise_wiP ps p) (fun q hq => by
        rcases mem_wiP.mp hq with rfl | hq
        · exact hp
        · exact hi q hq)]
      constructor
      · exact fun h => h.sub fun q hq => mem_wiP.mpr (List.mem_cons.mp hq)
      · exact fun h => h.sub fun q hq => List.mem_cons.mpr (mem_wiP.mp hq)
    simp only [layL, nexL, List.mem_filter, mem_layL t hA d hr hi, ansB, savB, heL, thL, Bool.and_eq_true, Bool.or_eq_true, List.all_eq_true, List.any_eq_true, List.mem_filter, List.mem_map, mem_rngI, decide_eq_true_eq, Bool.not_eq_true', decide_eq_false_iff_not]
    constructor
    · rintro ⟨h1, h2, h3, h4⟩
      refine ⟨h1.iso, fun x x0 x1 => ?_, fun y y0 y1 => ?_⟩
      · by_cases m : ∃ p, p ∈ ps ∧ p.1 = x
        · obtain ⟨p, hp, e⟩ := m
          have := hi p hp
          exact ⟨p.2, this.2.1, this.2.2, h1.sub fun q hq => by
            rcases List.mem_cons.mp hq with rfl | hq
            · rw [← e]
              exact hp
            · exact hq⟩
        · obtain ⟨_, ⟨b, ⟨hb, _⟩, rfl⟩, hw⟩ := h3 x ⟨⟨x0, x1⟩, m⟩
          exact ⟨b, hb.1, hb.2, (wr (x, b) ⟨⟨x0, x1⟩, hb⟩).mp hw⟩
      · by_cases m : ∃ p, p ∈ ps ∧ p.2 = y
        · obtain ⟨p, hp, e⟩ := m
          have := hi p hp
          exact ⟨p.1, this.1.1, this.1.2, h1.sub fun q hq => by
            rcases List.mem_cons.mp hq with rfl | hq
            · rw [← e]
              exact hp
            · exact hq⟩
        · obtain ⟨_, ⟨a, ⟨ha, _⟩, rfl⟩, hw⟩ := h4 y ⟨⟨y0, y1⟩, m⟩
          exact ⟨a, ha.1, ha.2, (wr (a, y) ⟨ha, ⟨y0, y1⟩⟩).mp hw⟩
    · intro h
      refine ⟨h.down, .inr h.down, fun a ha => ?_, fun b hb => ?_⟩
      · obtain ⟨y, y0, y1, e⟩ := h.2.1 a ha.1.1 ha.1.2
        refine ⟨(a, y), ⟨y, ⟨⟨y0, y1⟩, ?_⟩, rfl⟩, (wr (a, y) ⟨ha.1, y0, y1⟩).mpr e⟩
        rintro ⟨p, hp, e2⟩
        exact ha.2 ⟨p, hp, (e.iso.2 p (by simp [hp]) (a, y) (by simp)).1.mpr e2⟩
      · obtain ⟨x, y0, y1, e⟩ := h.2.2 b hb.1.1 hb.1.2
        refine ⟨(x, b), ⟨x, ⟨⟨y0, y1⟩, ?_⟩, rfl⟩, (wr (x, b) ⟨⟨y0, y1⟩, hb.1⟩).mpr e⟩
        rintro ⟨p, hp, e2⟩
        exact hb.2 ⟨p, hp, (e.iso.2 p (by simp [hp]) (x, b) (by simp)).1.mp e2⟩
theorem nil_layL (t : Tg A B) (hA : A.n ≤ 4) (d : Nat) : [] ∈ layL A B d ↔ EQ A B d [] := mem_layL t hA d (by simp [Rise]) (fun p hp => by simp at hp)
end
end Pk
end
section
-- PuLp
set_option linter.all false
set_option maxRecDepth 10000
/-! The defs about worlds, pairings, layers, run. -/
namespace Pk
open PySem
def dM (m : List Nat × List Int) : D := .tup [.str m.1, .tup (m.2.map .int)]
def dA (m : List Nat × PS) : D := .tup [.str m.1, .tup (m.2.map ofPair)]
def dW (w : W) : D := .tup [.int w.n, .tup (w.ms.map dM), .tup (w.as.map dA)]
def dP (ps : PS) : D := .tup (ps.map ofPair)
@[simp] def zz_ofPair_1 := @ofPair.eq_1
theorem sd_pt {n : Nat} {l : List Int} : ∀ d ∈ l.map D.int, Sd n d := fun d h => by
  obtain ⟨x, _, rfl⟩ := List.mem_map.mp h
  exact Sd.int x
theorem sd_pair (p : Int × Int) : Sd 1 (ofPair p) := Sd.tup (n := 0) fun d h => by
  simp only [List.mem_cons, List.not_mem_nil, or_false] at h
  rcases h with rfl | rfl <;> exact Sd.int _
theorem sd_prs {l : PS} : ∀ d ∈ l.map ofPair, Sd 1 d := fun d h => by
  obtain ⟨x, _, rfl⟩ := List.mem_map.mp h
  exact sd_pair x
theorem sd_dP (ps : PS) : Sd 2 (dP ps) := Sd.tup sd_prs
theorem ofPair_inj {p q : Int × Int} : ofPair p = ofPair q ↔ p = q := by
  cases p; cases q
  simp
theorem mem_ofPair {p : Int × Int} {l : PS} : ofPair p ∈ l.map ofPair ↔ p ∈ l := by
  simp only [List.mem_map]
  constructor
  · rintro ⟨q, h, e⟩
    rw [← ofPair_inj.mp e]
    exact h
  · exact fun h => ⟨p, h, rfl⟩
theorem dP_inj {p q : PS} : dP p = dP q ↔ p = q := by
  unfold dP
  constructor
  · intro h
    have h : p.map ofPair = q.map ofPair := by injection h
    exact (List.map_inj_right fun a b => ofPair_inj.mp).mp h
  · rintro rfl
    rfl
theorem some_dec {c : Bool} {P : Prop} [Decidable P] {o : Option Bool} (h : o = some c) (k : c = true ↔ P) : o = some (decide P) := by
  rw [h]
  congr 1
  rw [Bool.eq_iff_iff, k]
  simp
@[simp] theorem in_pts (x : Int) (l : List Int) : inD (.int x) (.tup (l.map .int)) = some (decide (x ∈ l)) := by
  obtain ⟨c, h, k⟩ := in_tup (n := 0) (m := 0) (Sd.int x) (sd_pt (l := l)) (by omega) (by omega)
  exact some_dec h (by simpa using k)
@[simp] theorem in_ptl (x : Int) (l : List Int) : inD (.int x) (.lst (l.map .int)) = some (decide (x ∈ l)) := by
  obtain ⟨c, h, k⟩ := in_lst (n := 0) (m := 0) (Sd.int x) (sd_pt (l := l)) (by omega) (by omega)
  exact some_dec h (by simpa using k)
@[simp] theorem in_prs (a b : Int) (l : PS) : inD (.tup [.int a, .int b]) (.tup (l.map ofPair)) = some (decide ((a, b) ∈ l)) := by
  obtain ⟨c, h, k⟩ := in_tup (sd_pair (a, b)) (sd_prs (l := l)) (by omega) (by omega)
  exact some_dec h (by rw [k]; exact mem_ofPair)
@[simp] theorem eq_dP (p q : PS) : eqD (.tup (p.map ofPair)) (.tup (q.map ofPair)) = some (decide (p = q)) := by
  obtain ⟨c, h, k⟩ := eq_sd (sd_dP p) (sd_dP q) (by omega) (by omega)
  exact some_dec h (by rw [k]; exact dP_inj)
@[simp] theorem eq_dP0 (p : PS) : eqD (.tup (p.map ofPair)) (.tup []) = some (decide (p = [])) := eq_dP p []
@[simp] theorem eq_t00 : eqD (.tup []) (.tup []) = some true := eq_dP [] []
theorem zipD_map {α β : Type} (f : α → D) (g : β → D) : ∀ (l : List α) (m : List β), zipD (l.map f) (m.map g) = (l.zip m).map fun p => .tup [f p.1, g p.2]
  | [], _ => by simp [zipD]
  | _ :: _, [] => by simp [zipD]
  | x :: xs, y :: ys => by simp [zipD, zipD_map f g xs ys]
section
variable {A B : W} {s : Sh}
@[simp] theorem ix_W0 (w : W) : ixD (dW w) (.int 0) = some (.int w.n) := by simp [dW]
@[simp] theorem ix_W1 (w : W) : ixD (dW w) (.int 1) = some (.tup (w.ms.map dM)) := by simp [dW]
@[simp] theorem ix_W2 (w : W) : ixD (dW w) (.int 2) = some (.tup (w.as.map dA)) := by simp [dW]
@[simp] theorem ix_M0 (m : List Nat × List Int) : ixD (dM m) (.int 0) = some (.str m.1) := by simp [dM]
@[simp] theorem ix_M1 (m : List Nat × List Int) : ixD (dM m) (.int 1) = some (.tup (m.2.map .int)) := by simp [dM]
@[simp] theorem ix_A0 (m : List Nat × PS) : ixD (dA m) (.int 0) = some (.str m.1) := by simp [dA]
@[simp] theorem ix_A1 (m : List Nat × PS) : ixD (dA m) (.int 1) = some (.tup (m.2.map ofPair)) := by simp [dA]
@[simp] theorem bind_M (i j : Nat) (m : List Nat × List Int) (ρ : En) : bindT (.many [i, j]) (dM m) ρ = some ((ρ.set i (.p (.str m.1))).set j (.p (.tup (m.2.map .int)))) := by simp [dM]
@[simp] theorem bind_A (i j : Nat) (m : List Nat × PS) (ρ : En) : bindT (.many [i, j]) (dA m) ρ = some ((ρ.set i (.p (.str m.1))).set j (.p (.tup (m.2.map ofPair)))) := by simp [dA]
@[simp] theorem asPrs_map : ∀ l : PS, asPrs (l.map ofPair) = some l
  | [] => rfl
  | x :: r => by
    have := asPrs_map r
    simp [asPrs, asPair, this]
theorem asPairs_dP (l : PS) : asPairs (.tup (l.map ofPair)) = some l := by
  unfold asPairs
  induction l with
  | nil => rfl
  | cons x r ih => simp [asPair, ih]
theorem c_same_marks (k : Nat) (a b : Int) : callN (k + 1) .same_marks [dW A, dW B, .tup [.int a, .int b]] s = some (.bl (smB A B (a, b)), s) := by
  refine call_rt rfl ?_
  simp [b_same_marks]
  rw [← Bool.and_true (smB A B (a, b))]
  refine run_all (fun m : (List Nat × List Int) × (List Nat × List Int) => .tup [dM m.1, dM m.2]) (fun m => decide (a ∈ m.1.2) == decide (b ∈ m.2.2))
    (fun ρ => ∃ x y, ρ = [.p (dW A), .p (dW B), .p (.tup [.int a, .int b]), x, y]) (A.ms.zip B.ms) (by simp [zipD_map]) ⟨_, _, rfl⟩ (fun m hm ρ ⟨x, y, e⟩ => ?_) ?_
  · subst e
    refine ⟨_, rfl, ?_⟩
    by_cases h1 : a ∈ m.1.2 <;> by_cases h2 : b ∈ m.2.2 <;> simp [h1, h2]
  · rintro _ ρ ⟨x, y, rfl⟩
    simp
theorem c_agree (k : Nat) (a b c d : Int) : callN (k + 1) .agree [dW A, dW B, .tup [.int a, .int b], .tup [.int c, .int d]] s = some (.bl (agB A B (a, b) (c, d)), s) := by
  refine call_rt rfl ?_
  simp [b_agree]
  have go : ∀ ρ, ρ = [Sl.p (dW A), .p (dW B), .p (.tup [.int a, .int b]), .p (.tup [.int c, .int d]), .p (.int a), .p (.int b), .p (.int c), .p (.int d), .un, .un] →
      exSs (callN k) (.cons (.for_ (.many [8, 9]) (.zip (.ix (.var 0) (.int 2)) (.ix (.var 1) (.int 2))) (.cons (.iff (.or2 (.cmp .ne (.cmp .isin (.tup (.cons (.var 4) (.cons (.var 6) .nil))) (.ix (.var 8) (.int 1))) (.cmp .isin (.tup (.cons (.var 5) (.cons (.var 7) .nil))) (.ix (.var 9) (.int 1)))) (.cmp .ne (.cmp .isin (.tup (.cons (.var 6) (.cons (.var 4) .nil))) (.ix (.var 8) (.int 1))) (.cmp .isin (.tup (.cons (.var 7) (.cons (.var 5) .nil))) (.ix (.var 9) (.int 1))))) (.cons (.ret (.bl false)) .nil) .nil) .nil)) (.cons (.ret (.bl true)) .nil)) ρ s = some (.rt (.bl ((A.as.zip B.as).all fun m => (decide ((a, c) ∈ m.1.2) == decide ((b, d) ∈ m.2.2)) && (decide ((c, a) ∈ m.1.2) == decide ((d, b) ∈ m.2.2)))) s) := by
    rintro ρ rfl
    rw [← Bool.and_true (List.all _ _)]
    refine run_all (fun m : (List Nat × PS) × (List Nat × PS) => .tup [dA m.1, dA m.2]) _
      (fun ρ => ∃ x y, ρ = [.p (dW A), .p (dW B), .p (.tup [.int a, .int b]), .p (.tup [.int c, .int d]), .p (.int a), .p (.int b), .p (.int c), .p (.int d), x, y]) (A.as.zip B.as) (by simp [zipD_map]) ⟨_, _, rfl⟩ (fun m hm ρ ⟨x, y, e⟩ => ?_) ?_
    · subst e
      refine ⟨_, rfl, ?_⟩
      by_cases h1 : (a, c) ∈ m.1.2 <;> by_cases h2 : (b, d) ∈ m.2.2 <;> by_cases h3 : (c, a) ∈ m.1.2 <;> by_cases h4 : (d, b) ∈ m.2.2 <;> simp [h1, h2, h3, h4]
    · rintro _ ρ ⟨x, y, rfl⟩
      simp
  cases hx : decide (a = c) <;> cases hy : decide (b = d) <;> simp [agB, hx, hy, go]
theorem c_joins (k : Nat) (ps : PS) (a b : Int) (hl : ps.length ≤ 10000000) : callN (k + 2) .joins [dW A, dW B, dP ps, .tup [.int a, .int b]] s = some (.bl (joB A B ps (a, b)), s) := by
  refine call_rt rfl ?_
  simp [b_joins, c_same_marks, c_agree]
  by_cases h1 : smB A B (a, b) = true <;> by_cases h2 : agB A B (a, b) (a, b) = true <;> simp [h1, h2, joB]
  rw [ev_comp_m (e := ofPair) (l := ps) (fun q => .bl (agB A B (a, b) q)) (by simp [dP]) (by simp) hl (fun q hq => ⟨_, rfl, by simp [c_agree]⟩)]
  simp [asBls_m]
theorem rng_I (n : Int) : rngL 0 n = (rngI n).map .int := by
  unfold rngL rngI
  rw [List.map_map]
  congr 1
  · funext i
    simp
  · simp
theorem c_with_pair (k : Nat) (ps : PS) (a b : Int) (hl : ps.length < 60) (hp : ∀ p ∈ ps ++ [(a, b)], 0 ≤ p.1 ∧ p.1 < 64 ∧ 0 ≤ p.2 ∧ p.2 < 64) : callN (k + 1) .with_pair [dP ps, .tup [.int a, .int b]] s = some (dP (wiP ps (a, b)), s) := by
  refine call_rt rfl ?_
  have e : List.map ofPair ps ++ [D.tup [.int a, .int b]] = (ps ++ [(a, b)]).map ofPair := by simp
  simp [b_with_pair, dP]
  rw [if_pos (by omega)]
  simp only [e, ssetD, asPrs_map]
  rw [if_pos (by simp; omega)]
  simp only [Option.bind_some]
  rw [if_pos (by
    rw [List.all_eq_true]
    exact fun p h => by simpa using hp p h)]
  simp [wiP]
theorem lastLt_eq (ps : PS) (a b : Int) (h : ps ≠ []) : ∃ q, L2.atI (ps.map ofPair) (-1) = some (ofPair q) ∧ lastLt ps (a, b) = ltP q (a, b) := by
  rcases List.eq_nil_or_concat ps with rfl | ⟨qs, q, rfl⟩
  · exact absurd rfl h
  · refine ⟨q, ?_, ?_⟩
    · rw [List.concat_eq_append, List.map_append]
      exact atI_last _ _
    · unfold lastLt
      rw [List.concat_eq_append, List.getLast?_concat]
@[simp] theorem cmp_lt_pp (a b c d : Int) : cmpD .lt (.tup [.int a, .int b]) (.tup [.int c, .int d]) = some (.bl (ltP (a, b) (c, d))) := rfl
theorem furL_len (ps : PS) : (furL A B ps).length ≤ A.n.toNat * B.n.toNat := by
  unfold furL
  rw [List.length_flatMap]
  have : ∀ l : List Int, ((l.map fun a => (((rngI B.n).filter fun b => lastLt ps (a, b) && joB A B ps (a, b)).map fun b => ps ++ [(a, b)]).length)).sum ≤ l.length * B.n.toNat := fun l => by
    induction l with
    | nil => simp
    | cons a r ih =>
      simp only [List.map_cons, List.sum_cons, List.length_cons, List.length_map] at ih ⊢
      have h1 := List.length_filter_le (fun b => lastLt ps (a, b) && joB A B ps (a, b)) (rngI B.n)
      have h2 : (rngI B.n).length = B.n.toNat := by simp [rngI]
      rw [Nat.add_mul]
      omega
  have h2 : (rngI A.n).length = A.n.toNat := by simp [rngI]
  have := this (rngI A.n)
  rw [h2] at this
  exact this
def fuP (A B : W) (ps : PS) (a b : Int) : Bool := lastLt ps (a, b) && joB A B ps (a, b)
def fuR (A B : W) (ps : PS) (a : Int) (l : List Int) : List PS := (l.filter (fuP A B ps a)).map fun b => ps ++ [(a, b)]
theorem furL_eq (ps : PS) : furL A B ps = (rngI A.n).flatMap fun a => fuR A B ps a (rngI B.n) := rfl
theorem fuR_snoc (ps : PS) (a b : Int) (l : List Int) : fuR A B ps a (l ++ [b]) = fuR A B ps a l ++ if fuP A B ps a b = true then [ps ++ [(a, b)]] else [] := by
  unfold fuR
  rw [List.filter_append, List.map_append]
  congr 1
  by_cases h : fuP A B ps a b = true <;> simp [h]
theorem fuR_len (ps : PS) (a : Int) (l : List Int) : (fuR A B ps a l).length ≤ l.length := by
  unfold fuR
  rw [List.length_map]
  exact List.length_filter_le _ _
theorem fuL_len (ps : PS) (m : List Int) : ∀ l : List Int, (l.flatMap fun a => fuR A B ps a m).length ≤ l.length * m.length
  | [] => by simp
  | a :: r => by
    have := fuL_len ps m r
    have := fuR_len (A := A) (B := B) ps a m
    rw [List.flatMap_cons, List.length_append, List.length_cons, Nat.add_mul]
    omega
theorem rngI_len (n : Int) : (rngI n).length = n.toNat := by simp [rngI]
theorem smallOf {n : Int} (h0 : 0 ≤ n) (h : n ≤ 1000) : small? n = true := by
  unfold small?
  simp
  omega
theorem len_pre {α : Type} {l p q : List α} {x : α} (h : l = p ++ x :: q) : p.length < l.length := by
  rw [h]
  simp
theorem c_further (k : Nat) (ps : PS) (hl : ps.length ≤ 1000) (a0 : 0 ≤ A.n) (b0 : 0 ≤ B.n) (hA : A.n ≤ 8) (hB : B.n ≤ 8) : callN (k + 3) .further [dW A, dW B, dP ps] s = some (.lst ((furL A B ps).map dP), s) := by
  refine call_rt rfl ?_
  simp [b_further]
  have hA' : small? A.n = true := smallOf a0 (by omega)
  have hB' : small? B.n = true := smallOf b0 (by omega)
  refine run_pre .int (fun pre ρ => ∃ x y, ρ = [.p (dW A), .p (dW B), .p (dP ps), .o (.lst ((pre.flatMap fun a => fuR A B ps a (rngI B.n)).map dP)), x, y]) (rngI A.n) (by simp [rng_I, hA']) ⟨_, _, rfl⟩ (fun pre a post hpre ρ ⟨x, y, e⟩ => ?_) ?_
  · subst e
    refine ⟨_, rfl, ?_⟩
    refine run_preE .int (fun pre' ρ => ∃ y, ρ = [.p (dW A), .p (dW B), .p (dP ps), .o (.lst ((pre.flatMap (fun a => fuR A B ps a (rngI B.n)) ++ fuR A B ps a pre').map dP)), .p (.int a), y]) (rngI B.n) (by simp [rng_I, hB']) ⟨y, by simp [fuR]⟩ (fun pre' b post' hpre' ρ ⟨y, e⟩ => ?_) ?_
    · subst e
      refine ⟨_, rfl, ?_⟩
      rw [fuR_snoc]
      have hb : (pre.flatMap (fun a => fuR A B ps a (rngI B.n)) ++ fuR A B ps a pre').length < 16777216 := by
        have h1 := fuL_len (A := A) (B := B) ps (rngI B.n) pre
        have h2 := fuR_len (A := A) (B := B) ps a pre'
        have h3 := len_pre hpre
        have h4 := len_pre hpre'
        rw [rngI_len] at *
        have h5 : pre.length * B.n.toNat ≤ 8 * 8 := Nat.mul_le_mul (by omega) (by omega)
        rw [List.length_append]
        omega
      rw [← List.append_assoc]
      generalize pre.flatMap (fun a => fuR A B ps a (rngI B.n)) ++ fuR A B ps a pre' = acc at *
      have hj := c_joins (A := A) (B := B) (s := s) k ps a b (by omega)
      have hl2 : ps.length ≤ 16777215 := by omega
      by_cases h0 : ps = []
      · subst h0
        cases hq : joB A B [] (a, b) <;> simp [dP] at hj <;> simp [dP, hj, hq, hb, fuP, lastLt]
      · obtain ⟨q, h1, h2⟩ := lastLt_eq ps a b h0
        cases h3 : ltP q (a, b) <;> cases hq : joB A B ps (a, b) <;> simp [dP] at hj <;> simp [dP, hj, hq, hb, fuP, h0, h1, h2, h3, hl2]
    · rintro ρ ⟨y, rfl⟩
      exact ⟨_, rfl, .p (.int a), y, by simp⟩
  · rintro ρ ⟨x, y, rfl⟩
    simp [furL_eq]
/-- names a text can hold -/
def Nok (w : W) : Prop := (∀ m ∈ w.ms, ∀ c ∈ m.1, c < 1114112) ∧ ∀ m ∈ w.as, ∀ c ∈ m.1, c < 1114112
def dT (w : W) : D := .tup [.tup (w.ms.map fun m => .str m.1), .tup (w.as.map fun m => .str m.1)]
theorem c_tongue_of (k : Nat) (w : W) (h1 : w.ms.length ≤ 100) (h2 : w.as.length ≤ 100) : callN (k + 1) .tongue_of [dW w] s = some (dT w, s) := by
  refine call_rt rfl ?_
  simp [b_tongue_of]
  rw [ev_comp_m (e := dM) (l := w.ms) (fun m => .str m.1) (by simp) (by simp) (by omega) (fun q hq => ⟨_, rfl, by simp⟩)]
  simp
  rw [ev_comp_m (e := dA) (l := w.as) (fun m => .str m.1) (by simp) (by simp) (by omega) (fun q hq => ⟨_, rfl, by simp⟩)]
  simp [dT]
theorem sd_dT {w : W} (h : Nok w) : Sd 2 (dT w) := by
  refine Sd.tup (n := 1) fun d hd => ?_
  simp only [List.mem_cons, List.not_mem_nil, or_false] at hd
  rcases hd with rfl | rfl
  · refine Sd.tup (n := 0) fun d hd => ?_
    obtain ⟨m, hm, rfl⟩ := List.mem_map.mp hd
    exact Sd.str (h.1 m hm)
  · refine Sd.tup (n := 0) fun d hd => ?_
    obtain ⟨m, hm, rfl⟩ := List.mem_map.mp hd
    exact Sd.str (h.2 m hm)
theorem dT_eq (t : Tg A B) : dT A = dT B := by
  have e : ∀ {α : Type} (l : List (List Nat × α)), l.map (fun m => D.str m.1) = (l.map Prod.fst).map .str := fun l => by simp
  unfold dT
  rw [e, e, e, e, t.1, t.2]
theorem eq_self {n : Nat} {d : D} (h : Sd n d) (k : n ≤ 64) : eqD d d = some true := by
  obtain ⟨c, h1, h2⟩ := eq_sd h h k k
  rw [h1, h2.mpr rfl]
/-- two worlds of one tongue that are small enough -/
structure Two (A B : W) : Prop where
  t : Tg A B
  na : Nok A
  a0 : 1 ≤ A.n
  b0 : 1 ≤ B.n
  la : A.ms.length ≤ 100
  lb : A.as.length ≤ 100
theorem c_check_tongue (k : Nat) (h : Two A B) : callN (k + 2) .check_tongue [dW A, dW B] s = some (.non, s) := by
  refine call_nx (ρ := [.p (dW A), .p (dW B)]) rfl ?_
  have h1 := h.la
  have h2 := h.lb
  have h3 := h.t.lm
  have h4 := h.t.la
  simp [b_check_tongue, c_tongue_of k A h1 h2, c_tongue_of k B (by omega) (by omega), ← dT_eq h.t, eq_self (sd_dT h.na)]
theorem c_check_small (k : Nat) (hA : A.n ≤ 4) : callN (k + 1) .check_small [dW A] s = some (.non, s) := by
  refine call_nx (ρ := [.p (dW A)]) rfl ?_
  have : ¬ 4 < A.n := by omega
  simp [b_check_small, this]
theorem c_check_two (k : Nat) (h : Two A B) (hA : A.n ≤ 4) (hB : B.n ≤ 4) : callN (k + 3) .check_two [dW A, dW B] s = some (.non, s) := by
  refine call_nx (ρ := [.p (dW A), .p (dW B)]) rfl ?_
  simp [b_check_two, c_check_tongue k h, c_check_small (k + 1) hA, c_check_small (k + 1) hB]
theorem c_is_whole (k : Nat) (i : Int) : callN (k + 1) .is_whole [.int i] s = some (.bl true, s) := by
  refine call_rt rfl ?_
  simp [b_is_whole]
theorem c_count_of (k : Nat) (i a b : Int) (h1 : a ≤ i) (h2 : i ≤ b) : callN (k + 2) .count_of [.int i, .int a, .int b] s = some (.int i, s) := by
  refine call_rt rfl ?_
  have h1' : ¬ i < a := by omega
  have h2' : ¬ b < i := by omega
  simp [b_count_of, c_is_whole, h1', h2']
theorem lvlL_len (hA : A.n ≤ 4) (hB : B.n ≤ 4) : ∀ k, (lvlL A B k).length ≤ 16 ^ k
  | 0 => by simp [lvlL]
  | k + 1 => by
    have ih := lvlL_len hA hB k
    have : ∀ l : List PS, (l.flatMap (furL A B)).length ≤ l.length * 16 := fun l => by
      induction l with
      | nil => simp
      | cons a r ih =>
        have h1 := furL_len (A := A) (B := B) a
        have h2 : A.n.toNat * B.n.toNat ≤ 4 * 4 := Nat.mul_le_mul (by omega) (by omega)
        rw [List.flatMap_cons, List.length_append, List.length_cons]
        omega
    have h := this (lvlL A B k)
    rw [lvlL, Nat.pow_succ]
    omega
theorem c_pairings (k : Nat) (h : Two A B) (hA : A.n ≤ 4) (hB : B.n ≤ 4) : callN (k + 4) .pairings [dW A, dW B, .int 4] s = some (.lst ((pairL A B 4).map dP), s) := by
  refine call_rt rfl ?_
  have a0 := h.a0
  have b0 := h.b0
  simp [b_pairings, c_check_two k h hA hB, c_count_of (k + 1)]
  have hr : rngL 0 4 = ([0, 1, 2, 3] : List Int).map .int := rfl
  have hll : ∀ i, i ≤ 4 → (lvlL A B i).length ≤ 65536 := fun i hi => by
    have := lvlL_len (A := A) (B := B) hA hB i
    have h2 : 16 ^ i ≤ 16 ^ 4 := Nat.pow_le_pow_right (by omega) hi
    omega
  refine run_pre .int (fun pre ρ => ∃ x y z, ρ = [.p (dW A), .p (dW B), .p (.int 4), .o (.lst ((pairL A B pre.length).map dP)), .p (.lst ((lvlL A B pre.length).map dP)), x, y, z] ∧ (pairL A B pre.length).length ≤ 70000 * (pre.length + 1)) [0, 1, 2, 3] (by simp [hr, small?]) ⟨.un, .un, .un, by simp [pairL, lvlL, dP], by simp [pairL]⟩ (fun pre i post hpre ρ ⟨x, y, z, e, hpl⟩ => ?_) ?_
  · subst e
    have hi4 : pre.length < 4 := by
      have := len_pre hpre
      simpa using this
    refine ⟨_, rfl, ?_⟩
    simp
    refine run_preE dP (fun pre' ρ => ∃ z, ρ = [.p (dW A), .p (dW B), .p (.int 4), .o (.lst ((pairL A B pre.length).map dP)), .p (.lst ((lvlL A B pre.length).map dP)), .p (.int i), .o (.lst ((pre'.flatMap (furL A B)).map dP)), z] ∧ (pre'.flatMap (furL A B)).length ≤ 16 * pre'.length) (lvlL A B pre.length) (by simp) ⟨z, by simp, by simp⟩ (fun pre' ps post' hpre' ρ ⟨z, e, hl2⟩ => ?_) ?_
    · subst e
      refine ⟨_, rfl, ?_⟩
      have hps : ps.length ≤ 1000 := by
        have := ((mem_lvlL h.t pre.length (ps := ps)).mp (by rw [hpre']; simp)).1
        omega
      have hf := furL_len (A := A) (B := B) ps
      have hf2 : A.n.toNat * B.n.toNat ≤ 4 * 4 := Nat.mul_le_mul (by omega) (by omega)
      have hl3 := len_pre hpre'
      have hl4 := hll pre.length (by omega)
      have hb : (pre'.flatMap (furL A B)).length + (furL A B ps).length ≤ 16777216 := by omega
      have hfm : (pre' ++ [ps]).flatMap (furL A B) = pre'.flatMap (furL A B) ++ furL A B ps := by simp [List.flatMap_append]
      rw [hfm]
      generalize pre'.flatMap (furL A B) = acc at *
      refine ⟨_, ?_, .p (dP ps), rfl, by rw [List.length_append, List.length_append, List.length_singleton]; omega⟩
      simp [c_further (A := A) (B := B) (s := s) k ps hps (by omega) (by omega) (by omega) (by omega), hb]
    · rintro ρ ⟨z, rfl, hl2⟩
      have e1 : (lvlL A B pre.length).flatMap (furL A B) = lvlL A B (pre.length + 1) := rfl
      rw [e1] at hl2 ⊢
      have hl4 := hll pre.length (by omega)
      have hl5 := hll (pre.length + 1) (by omega)
      have hb : (pairL A B pre.length).length + (lvlL A B (pre.length + 1)).length ≤ 16777216 := by omega
      refine ⟨[.p (dW A), .p (dW B), .p (.int 4), .o (.lst ((pairL A B (pre.length + 1)).map dP)), .p (.lst ((lvlL A B (pre.length + 1)).map dP)), .p (.int i), .p (.lst ((lvlL A B (pre.length + 1)).map dP)), z], ?_, ⟨.p (.int i), .p (.lst ((lvlL A B (pre.length + 1)).map dP)), z, ?_⟩, ?_⟩
      · simp [hb, pairL]
      · simp
      · simp only [pairL, List.length_append, List.length_singleton]
        omega
  · rintro ρ ⟨x, y, z, rfl, _⟩
    simp
/-! ### is a pairing answered -/
/-- pairings as the layers hold them -/
def Small (A B : W) (ps : PS) : Prop := ps.length ≤ 8 ∧ InP A B ps
theorem c_is_saved (k : Nat) (hA : A.n ≤ 8) (hB : B.n ≤ 8) (ps ways : PS) (lev : List PS) (hs : Small A B ps) (hw : InP A B ways) : callN (k + 2) .is_saved [dP ps, .lst (ways.map ofPair), .lev lev] s = some (.bl (savB ps ways lev), s) := by
  refine call_rt rfl ?_
  simp [b_is_saved]
  refine run_any ofPair _ (fun ρ => ∃ x, ρ = [.p (dP ps), .p (.lst (ways.map ofPair)), .p (.lev lev), x]) ways (by simp) ⟨_, rfl⟩ (fun p hp ρ ⟨x, e⟩ => ?_) ?_
  · subst e
    refine ⟨_, rfl, ?_⟩
    have hw' := c_with_pair (s := s) k ps p.1 p.2 (by have := hs.1; omega) (fun q hq => by
      rcases List.mem_append.mp hq with m | m
      · have := hs.2 q m
        omega
      · rw [List.mem_singleton.mp m]
        have := hw p hp
        show 0 ≤ p.1 ∧ p.1 < 64 ∧ 0 ≤ p.2 ∧ p.2 < 64
        omega)
    have hin : inD (dP (wiP ps (p.1, p.2))) (.lev lev) = some (decide (wiP ps p ∈ lev)) := by
      simp only [inD, dP, asPairs_dP]
      rfl
    by_cases hm : wiP ps p ∈ lev <;> simp [hw', hin, hm]
  · rintro ρ ⟨x, rfl⟩
    simp
theorem in_lev (ps : PS) (lev : List PS) : inD (dP ps) (.lev lev) = some (decide (ps ∈ lev)) := by
  simp only [inD, dP, asPairs_dP]
  rfl
theorem all_false {α : Type} {l : List α} {q : α → Bool} (h : ¬ l.all q = true) : l.all q = false := by simpa using h
theorem c_is_answered (k : Nat) (a0 : 0 ≤ A.n) (b0 : 0 ≤ B.n) (hA : A.n ≤ 8) (hB : B.n ≤ 8) (ps : PS) (lev : List PS) (hs : Small A B ps) : callN (k + 3) .is_answered [dW A, dW B, dP ps, .lev lev] s = some (.bl (ansB A B ps lev), s) := by
  refine call_rt rfl ?_
  have hA' : small? A.n = true := smallOf a0 (by omega)
  have hB' : small? B.n = true := smallOf b0 (by omega)
  have hin := in_lev ps lev
  have heq : eqD (dP ps) (.tup []) = some (decide (ps = [])) := eq_dP0 ps
  have hps := hs.1
  have mh : ∀ a, a ∈ heL A ps → 0 ≤ a ∧ a < A.n := fun a h => mem_rngI.mp (List.mem_filter.mp h).1
  have mt : ∀ a, a ∈ thL B ps → 0 ≤ a ∧ a < B.n := fun a h => mem_rngI.mp (List.mem_filter.mp h).1
  have hh : (heL A ps).length ≤ 10000000 := by
    have := List.length_filter_le (fun a => !decide (a ∈ ps.map Prod.fst)) (rngI A.n)
    rw [rngI_len] at this
    unfold heL
    omega
  have ht : (thL B ps).length ≤ 10000000 := by
    have := List.length_filter_le (fun a => !decide (a ∈ ps.map Prod.snd)) (rngI B.n)
    rw [rngI_len] at this
    unfold thL
    omega
  have rA : (rngI A.n).length ≤ 10000000 := by rw [rngI_len]; omega
  have rB : (rngI B.n).length ≤ 10000000 := by rw [rngI_len]; omega
  have go : exSs (callN (k + 2)) (.cons (.setLc 4 (.comp false (.var 8) (.many [8, 9]) (.val (.var 2)) (.bl true))) (.cons (.setLc 5 (.comp false (.var 9) (.many [8, 9]) (.val (.var 2)) (.bl true))) (.cons (.setLc 6 (.comp true (.var 8) (.one 8) (.r1 (.ix (.var 0) (.int 0))) (.cmp .notin (.var 8) (.var 4)))) (.cons (.setLc 7 (.comp true (.var 9) (.one 9) (.r1 (.ix (.var 1) (.int 0))) (.cmp .notin (.var 9) (.var 5)))) (.cons (.for_ (.one 8) (.val (.var 6)) (.cons (.iff (.not1 (.call .is_saved (.cons (.var 2) (.cons (.comp false (.tup (.cons (.var 8) (.cons (.var 9) .nil))) (.one 9) (.val (.var 7)) (.bl true)) (.cons (.var 3) .nil))))) (.cons (.ret (.bl false)) .nil) .nil) .nil)) (.cons (.for_ (.one 9) (.val (.var 7)) (.cons (.iff (.not1 (.call .is_saved (.cons (.var 2) (.cons (.comp false (.tup (.cons (.var 8) (.cons (.var 9) .nil))) (.one 8) (.val (.var 6)) (.bl true)) (.cons (.var 3) .nil))))) (.cons (.ret (.bl false)) .nil) .nil) .nil)) (.cons (.ret (.bl true)) .nil)))))))
      [.p (dW A), .p (dW B), .p (dP ps), .p (.lev lev), .un, .un, .un, .un, .un, .un] s = some (.rt (.bl (((heL A ps).all fun a => savB ps ((thL B ps).map fun b => (a, b)) lev) && ((thL B ps).all fun b => savB ps ((heL A ps).map fun a => (a, b)) lev))) s) := by
    obtain ⟨fs, hfs⟩ : ∃ fs, ps.map Prod.fst = fs := ⟨_, rfl⟩
    obtain ⟨ss, hss⟩ : ∃ ss, ps.map Prod.snd = ss := ⟨_, rfl⟩
    have e1 : (ps.map fun p => D.int p.1) = fs.map .int := by rw [← hfs, List.map_map]; rfl
    have e2 : (ps.map fun p => D.int p.2) = ss.map .int := by rw [← hss, List.map_map]; rfl
    have e3 : heL A ps = (rngI A.n).filter fun a => !decide (a ∈ fs) := by rw [← hfs]; rfl
    have e4 : thL B ps = (rngI B.n).filter fun a => !decide (a ∈ ss) := by rw [← hss]; rfl
    simp
    rw [ev_comp_m (e := ofPair) (l := ps) (fun p => .int p.1) (by simp [dP]) (by simp) (by omega) (fun q hq => ⟨_, rfl, by simp⟩), e1]
    simp
    rw [ev_comp_m (e := ofPair) (l := ps) (fun p => .int p.2) (by simp [dP]) (by simp) (by omega) (fun q hq => ⟨_, rfl, by simp⟩), e2]
    simp
    rw [ev_comp_f (e := .int) (l := rngI A.n) .int (fun a => !decide (a ∈ fs)) (by simp [rng_I, hA']) (by simp) rA (fun q hq => ⟨_, rfl, by simp, by simp⟩), ← e3]
    simp
    rw [ev_comp_f (e := .int) (l := rngI B.n) .int (fun a => !decide (a ∈ ss)) (by simp [rng_I, hB']) (by simp) rB (fun q hq => ⟨_, rfl, by simp, by simp⟩), ← e4]
    simp
    refine run_all .int _ (fun ρ => ∃ x, (x = .un ∨ ∃ d, x = .p d) ∧ ρ = [.p (dW A), .p (dW B), .p (dP ps), .p (.lev lev), .p (.lst (fs.map .int)), .p (.lst (ss.map .int)), .p (.lst ((heL A ps).map .int)), .p (.lst ((thL B ps).map .int)), x, .un]) (heL A ps) (by simp) ⟨.un, .inl rfl, rfl⟩ (fun a ha ρ ⟨x, hx, e⟩ => ?_) ?_
    · subst e
      refine ⟨_, rfl, ?_⟩
      have := c_is_saved (s := s) k hA hB ps ((thL B ps).map fun b => (a, b)) lev hs (fun p hp => by
        obtain ⟨b, hb, rfl⟩ := List.mem_map.mp hp
        exact ⟨mh a ha, mt b hb⟩)
      have e5 : ((thL B ps).map fun b => (a, b)).map ofPair = (thL B ps).map fun b => .tup [.int a, .int b] := by simp
      rw [e5] at this
      simp
      rw [ev_comp_m (e := .int) (l := thL B ps) (fun b => .tup [.int a, .int b]) (by simp) (by simp) ht (fun q hq => ⟨_, rfl, by simp⟩)]
      cases hq : savB ps ((thL B ps).map fun b => (a, b)) lev <;> rw [hq] at this <;> simp [this]
    · rintro _ ρ ⟨x, hx, rfl⟩
      rw [← Bool.and_true (List.all (thL B ps) _)]
      refine run_all .int _ (fun ρ => ∃ y, ρ = [.p (dW A), .p (dW B), .p (dP ps), .p (.lev lev), .p (.lst (fs.map .int)), .p (.lst (ss.map .int)), .p (.lst ((heL A ps).map .int)), .p (.lst ((thL B ps).map .int)), x, y]) (thL B ps) (by simp) ⟨_, rfl⟩ (fun b hb ρ ⟨y, e⟩ => ?_) ?_
      · subst e
        refine ⟨_, rfl, ?_⟩
        have := c_is_saved (s := s) k hA hB ps ((heL A ps).map fun a => (a, b)) lev hs (fun p hp => by
          obtain ⟨a, ha, rfl⟩ := List.mem_map.mp hp
          exact ⟨mh a ha, mt b hb⟩)
        have e5 : ((heL A ps).map fun a => (a, b)).map ofPair = (heL A ps).map fun a => .tup [.int a, .int b] := by simp
        rw [e5] at this
        simp
        rw [ev_comp_m (e := .int) (l := heL A ps) (fun a => .tup [.int a, .int b]) (by simp) (by rcases hx with rfl | ⟨d, rfl⟩ <;> simp) hh (fun q hq => ⟨_, rfl, by simp⟩)]
        cases hq : savB ps ((heL A ps).map fun a => (a, b)) lev <;> rw [hq] at this <;> simp [this]
      · rintro _ ρ ⟨y, rfl⟩
        simp
  show exSs (callN (k + 2)) b_is_answered [.p (dW A), .p (dW B), .p (dP ps), .p (.lev lev), .un, .un, .un, .un, .un, .un] s = _
  by_cases h1 : ps = [] ∨ ps ∈ lev
  · unfold b_is_answered
    rw [exSs_nx (ρ' := [.p (dW A), .p (dW B), .p (dP ps), .p (.lev lev), .un, .un, .un, .un, .un, .un]) (s' := s) (by
      cases hz : decide (ps = []) <;> cases hy : decide (ps ∈ lev) <;> rw [hz] at heq <;> rw [hy] at hin <;> simp [heq, hin]
      rw [decide_eq_false_iff_not] at hz hy
      exact (h1.elim hz hy)), go]
    have : ansB A B ps lev = (((heL A ps).all fun a => savB ps ((thL B ps).map fun b => (a, b)) lev) && ((thL B ps).all fun b => savB ps ((heL A ps).map fun a => (a, b)) lev)) := by
      unfold ansB
      rcases h1 with h1 | h1 <;> simp [h1]
    rw [this]
  · have h2 : ¬ ps = [] := fun z => h1 (.inl z)
    have h3 : ¬ ps ∈ lev := fun z => h1 (.inr z)
    simp [b_is_answered, heq, hin, h2, h3, ansB]
theorem c_next_layer (k : Nat) (a0 : 0 ≤ A.n) (b0 : 0 ≤ B.n) (hA : A.n ≤ 8) (hB : B.n ≤ 8) (lay : List PS) (hl : lay.length ≤ 1000000) (hs : ∀ ps ∈ lay, Small A B ps) : callN (k + 4) .next_layer [dW A, dW B, .lst (lay.map dP)] s = some (.lst ((nexL A B lay).map dP), s) := by
  refine call_rt rfl ?_
  simp [b_next_layer]
  refine run_pre dP (fun pre ρ => ∃ (x : Sl) (lev : List PS), (x = .un ∨ ∃ d, x = .p d) ∧ (∀ z, z ∈ lev ↔ z ∈ pre) ∧ lev.length ≤ pre.length ∧ ρ = [.p (dW A), .p (dW B), .p (.lst (lay.map dP)), .o (.lev lev), x]) lay (by simp) ⟨.un, [], .inl rfl, by simp, by simp, rfl⟩ (fun pre ps post hpre ρ ⟨x, lev, hx, h1, h2, e⟩ => ?_) ?_
  · subst e
    refine ⟨_, rfl, ?_⟩
    have h3 := len_pre hpre
    have h4 : lev.length < 16777216 := by omega
    refine ⟨[.p (dW A), .p (dW B), .p (.lst (lay.map dP)), .o (.lev (if ps ∈ lev then lev else lev ++ [ps])), .p (dP ps)], ?_, .p (dP ps), _, .inr ⟨_, rfl⟩, fun z => ?_, ?_, rfl⟩
    · simp [dP, asPairs_dP, h4]
    · by_cases hm : ps ∈ lev
      · rw [if_pos hm, h1]
        simp only [List.mem_append, List.mem_singleton]
        constructor
        · exact .inl
        · rintro (z | rfl)
          · exact z
          · exact (h1 _).mp hm
      · rw [if_neg hm]
        simp [h1]
    · split
      · simp; omega
      · simp; omega
  · rintro ρ ⟨x, lev, hx, h1, h2, rfl⟩
    simp
    rw [ev_comp_f (e := dP) (l := lay) dP (fun ps => ansB A B ps lay) (by simp) (by rcases hx with rfl | ⟨d, rfl⟩ <;> simp) (by omega) (fun q hq => ⟨_, rfl, ?_, by simp⟩)]
    · rfl
    · have := c_is_answered (s := s) k a0 b0 hA hB q lev (hs q hq)
      have e : ansB A B q lev = ansB A B q lay := by
        unfold ansB savB
        simp only [h1]
      rw [e] at this
      simp [this]
theorem rngI_at {n : Int} {p q : List Int} {x : Int} (h : rngI n = p ++ x :: q) : x = (p.length : Nat) := by
  have h1 : (rngI n)[p.length]? = some x := by
    rw [h]
    simp
  unfold rngI at h1
  rw [List.getElem?_map] at h1
  simp only [Option.map_eq_some_iff] at h1
  obtain ⟨a, ha, e⟩ := h1
  rw [List.getElem?_range (by
    have := List.getElem?_eq_some_iff.mp ha
    obtain ⟨z, _⟩ := this
    simpa using z)] at ha
  simp at ha
  rw [← e, ha]
theorem layL_sub (d : Nat) : ∀ ps ∈ layL A B d, ps ∈ pairL A B 4 := by
  induction d with
  | zero => exact fun ps h => h
  | succ d ih => exact fun ps h => ih ps (List.mem_filter.mp h).1
theorem layL_len (d : Nat) : (layL A B d).length ≤ (pairL A B 4).length := by
  induction d with
  | zero => exact Nat.le_refl _
  | succ d ih => exact Nat.le_trans (List.length_filter_le _ _) ih
theorem layL_stop {d : Nat} (h : (layL A B (d + 1)).length = (layL A B d).length) : layL A B (d + 2) = layL A B (d + 1) := by
  have e : layL A B (d + 1) = layL A B d := (List.filter_sublist (p := fun ps => ansB A B ps (layL A B d))).eq_of_length h
  show nexL A B (layL A B (d + 1)) = _
  rw [e]
  exact e
theorem pairL_len (hA : A.n ≤ 4) (hB : B.n ≤ 4) : (pairL A B 4).length ≤ 1000000 := by
  have h := fun k => lvlL_len (A := A) (B := B) hA hB k
  have h1 : (lvlL A B (0 + 1)).length ≤ 16 ^ 1 := h 1
  have h2 : (lvlL A B (1 + 1)).length ≤ 16 ^ 2 := h 2
  have h3 : (lvlL A B (2 + 1)).length ≤ 16 ^ 3 := h 3
  have h4 : (lvlL A B (3 + 1)).length ≤ 16 ^ 4 := h 4
  simp only [pairL, List.length_append, List.length_singleton]
  omega
theorem c_layers (k : Nat) (h : Two A B) (hA : A.n ≤ 4) (hB : B.n ≤ 4) (d : Nat) (hd : d ≤ 6) : callN (k + 5) .layers [dW A, dW B, .int d] s = some (.lst ((List.range (d + 1)).map fun i => .lst ((layL A B i).map dP)), s) := by
  refine call_rt rfl ?_
  have a0 := h.a0
  have b0 := h.b0
  have hsm : small? (d : Int) = true := smallOf (by omega) (by omega)
  simp [b_layers, c_check_two (k + 1) h hA hB, c_count_of (k + 2) (d : Int) 0 6 (by omega) (by omega), c_pairings k h hA hB]
  refine run_pre .int (fun pre ρ => ∃ x, ρ = [.p (dW A), .p (dW B), .p (.int d), .o (.lst ((List.range (pre.length + 1)).map fun i => .lst ((layL A B i).map dP))), x]) (rngI d) (by simp [rng_I, hsm]) ⟨.un, by simp [layL]⟩ (fun pre st post hpre ρ ⟨x, e⟩ => ?_) ?_
  · subst e
    refine ⟨_, rfl, ?_⟩
    have hst := rngI_at hpre
    have hlen := len_pre hpre
    rw [rngI_len] at hlen
    refine ⟨[.p (dW A), .p (dW B), .p (.int d), .o (.lst ((List.range ((pre ++ [st]).length + 1)).map fun i => .lst ((layL A B i).map dP))), .p (.int st)], ?_, _, rfl⟩
    subst hst
    have hat : ∀ j, j ≤ pre.length → L2.atI ((List.range (pre.length + 1)).map fun i => D.lst ((layL A B i).map dP)) ((j : Nat) : Int) = some (.lst ((layL A B j).map dP)) := fun j hj => by
      rw [atI_nat, List.getElem?_map, List.getElem?_range (by omega)]
      rfl
    have h0 := hat pre.length (Nat.le_refl _)
    have hlt : pre.length + 1 < 16777216 := by omega
    have hn := c_next_layer (A := A) (B := B) (s := s) k (by omega) (by omega) (by omega) (by omega) (layL A B pre.length) (by have := layL_len (A := A) (B := B) pre.length; have := pairL_len hA hB; omega) (fun ps hps => by
      have := (mem_pairL h.t 4 (ps := ps)).mp (layL_sub _ ps hps)
      exact ⟨by omega, this.2.2.1⟩)
    have es : (List.range ((pre ++ [((pre.length : Nat) : Int)]).length + 1)).map (fun i => D.lst ((layL A B i).map dP)) = (List.range (pre.length + 1)).map (fun i => D.lst ((layL A B i).map dP)) ++ [.lst ((nexL A B (layL A B pre.length)).map dP)] := by
      rw [List.length_append, List.length_singleton, List.range_succ, List.map_append]
      rfl
    rw [es]
    cases hp : pre.length with
    | zero =>
      rw [hp] at h0 hn
      simp [h0, hn]
    | succ j =>
      rw [hp] at h0 hn hlt hat
      have h1 := hat j (by omega)
      have hpos : (0 : Int) < (j : Int) + 1 := by omega
      rw [Int.natCast_add, Int.natCast_one] at h0
      by_cases hq : (layL A B (j + 1)).length = (layL A B j).length
      · have := layL_stop hq
        have e2 : nexL A B (layL A B (j + 1)) = layL A B (j + 1) := this
        simp [h0, h1, hpos, hq, hlt, e2]
      · have hq' : ¬ ((layL A B (j + 1)).length : Int) = (layL A B j).length := by omega
        simp [h0, h1, hpos, hq', hlt, hn]
  · rintro ρ ⟨x, rfl⟩
    simp [rngI_len]
end
end Pk
end
section
-- PuSay
set_option linter.all false
set_option maxRecDepth 10000
/-! The defs about sayings, run. -/
namespace Pk
open PySem
mutual
def dS : Sy → D
  | .mark n l => .tup [.str [109, 97, 114, 107], .str n, .str [l]]
  | .arrow n l m => .tup [.str [97, 114, 114, 111, 119], .str n, .str [l], .str [m]]
  | .same l m => .tup [.str [115, 97, 109, 101], .str [l], .str [m]]
  | .neg φ => .tup [.str [110, 111, 116], dS φ]
  | .jn b l => .tup [.str (if b = true then [97, 110, 100] else [111, 114]), .tup (dSL l)]
  | .qu b c φ => .tup [.str (if b = true then [115, 111, 109, 101] else [101, 118, 101, 114, 121]), .str [c], dS φ]
def dSL : List Sy → List D
  | [] => []
  | φ :: r => dS φ :: dSL r
end
theorem dSL_map : ∀ l, dSL l = l.map dS
  | [] => rfl
  | φ :: r => by rw [dSL, dSL_map r]; rfl
mutual
def hg : Sy → Nat
  | .neg φ => hg φ + 1
  | .jn _ l => hgL l + 1
  | .qu _ _ φ => hg φ + 1
  | _ => 0
def hgL : List Sy → Nat
  | [] => 0
  | φ :: r => max (hg φ) (hgL r)
end
def partsS : Sy → List Sy
  | .neg φ => [φ]
  | .jn _ l => l
  | .qu _ _ φ => [φ]
  | _ => []
section
variable {s : Sh}
theorem atI_m1_3 {α : Type} (x y z : α) : L2.atI [x, y, z] (-1) = some z := rfl
theorem atI_m1_2 {α : Type} (x y : α) : L2.atI [x, y] (-1) = some y := rfl
theorem atI_m2_3 {α : Type} (x y z : α) : L2.atI [x, y, z] (-2) = some y := rfl
theorem c_parts_of (k : Nat) (φ : Sy) : callN (k + 1) .parts_of [dS φ] s = some (.lst ((partsS φ).map dS), s) := by
  refine call_rt rfl ?_
  cases φ with
  | mark n l => simp [b_parts_of, dS, partsS]
  | arrow n l m => simp [b_parts_of, dS, partsS]
  | same l m => simp [b_parts_of, dS, partsS]
  | neg φ => simp [b_parts_of, dS, partsS, atI_m1_2]
  | jn b l => cases b <;> simp [b_parts_of, dS, partsS, dSL_map]
  | qu b c φ => cases b <;> simp [b_parts_of, dS, partsS, atI_m1_3]
theorem maxL_cons (x : Int) (l : List Int) (h0 : 0 ≤ x) (h : 0 ≤ maxL l) : maxL (x :: l) = max x (maxL l) := by
  cases l with
  | nil => simp [maxL]; omega
  | cons y r => rfl
theorem maxL_dp : ∀ l : List Sy, maxL (l.map fun φ => (dp φ : Int)) = (dpL l : Nat)
  | [] => rfl
  | φ :: r => by
    have := maxL_dp r
    rw [List.map_cons, maxL_cons _ _ (by omega) (by omega), this, dpL]
    omega
theorem hgL_le {l : List Sy} : ∀ φ ∈ l, hg φ ≤ hgL l := by
  induction l with
  | nil => intro φ h; cases h
  | cons x r ih =>
    intro φ h
    rcases List.mem_cons.mp h with rfl | h
    · rw [hgL]; omega
    · have := ih φ h
      rw [hgL]; omega
theorem hg_parts {φ : Sy} : ∀ ψ ∈ partsS φ, hg ψ + 1 ≤ hg φ := by
  intro ψ h
  cases φ with
  | neg φ => simp [partsS] at h; subst h; simp [hg]
  | qu b c φ => simp [partsS] at h; subst h; simp [hg]
  | jn b l =>
    have := hgL_le (l := l) ψ h
    simp only [hg]
    omega
  | mark n l => cases h
  | arrow n l m => cases h
  | same l m => cases h
def isQ : Sy → Bool
  | .qu _ _ _ => true
  | _ => false
theorem dp_eq (φ : Sy) : dp φ = dpL (partsS φ) + if isQ φ = true then 1 else 0 := by
  cases φ <;> simp [dp, partsS, dpL, isQ]
/-- letters, names and widths are right -/
structure Voc where
  lt : List Nat
  tm : List (List Nat)
  ta : List (List Nat)
mutual
def wf (V : Voc) : Sy → Prop
  | .mark n l => n ∈ V.tm ∧ l ∈ V.lt
  | .arrow n l m => n ∈ V.ta ∧ l ∈ V.lt ∧ m ∈ V.lt
  | .same l m => l ∈ V.lt ∧ m ∈ V.lt
  | .neg φ => wf V φ
  | .jn _ l => l.length ≤ 7 ∧ l.length ≠ 1 ∧ wfL V l
  | .qu _ c φ => c ∈ V.lt ∧ wf V φ
def wfL (V : Voc) : List Sy → Prop
  | [] => True
  | φ :: r => wf V φ ∧ wfL V r
end
theorem wfL_mem {V : Voc} : ∀ {l : List Sy}, wfL V l ↔ ∀ φ ∈ l, wf V φ
  | [] => by simp [wfL]
  | φ :: r => by simp [wfL, wfL_mem (l := r)]
theorem wf_parts {V : Voc} {φ : Sy} (h : wf V φ) : ∀ ψ ∈ partsS φ, wf V ψ := by
  cases φ with
  | neg φ => simpa [partsS, wf] using h
  | qu b c φ =>
    simp only [wf] at h
    simpa [partsS] using h.2
  | jn b l =>
    simp only [wf] at h
    exact wfL_mem.mp h.2.2
  | mark n l => intro ψ h; cases h
  | arrow n l m => intro ψ h; cases h
  | same l m => intro ψ h; cases h
theorem wf_len {V : Voc} {φ : Sy} (h : wf V φ) : (partsS φ).length ≤ 7 := by
  cases φ with
  | jn b l =>
    simp only [wf] at h
    exact h.1
  | _ => simp [partsS]
@[simp] theorem ix_S0_jn (b : Bool) (l : List Sy) : ixD (dS (.jn b l)) (.int 0) = some (.str (if b = true then [97, 110, 100] else [111, 114])) := by simp [dS]
theorem c_depth_of {V : Voc} : ∀ (n : Nat) (φ : Sy), hg φ ≤ n → wf V φ → ∀ k, n + 2 ≤ k → callN k .depth_of [dS φ] s = some (.int (dp φ), s)
  | n, φ, hn, hw, k, hk => by
    obtain ⟨j, rfl⟩ : ∃ j, k = j + 2 := ⟨k - 2, by omega⟩
    refine call_rt rfl ?_
    have hl := wf_len hw
    simp [b_depth_of]
    rw [ev_comp_m (e := dS) (l := partsS φ) (fun ψ => .int (dp ψ)) (by simp [c_parts_of]) (by simp) (by omega) (fun ψ hψ => ⟨_, rfl, by
      have h1 := hg_parts ψ hψ
      have := c_depth_of (n - 1) ψ (by omega) (wf_parts hw ψ hψ) (j + 1) (by omega)
      simp [this]⟩)]
    have e : ((partsS φ).map fun ψ => D.int (dp ψ)) = ((partsS φ).map fun ψ => (dp ψ : Int)).map .int := by simp
    rw [e]
    simp only [b1_max, asInts_map, Option.map_some, maxL_dp]
    rw [dp_eq φ]
    cases φ with
    | mark n l => simp [dS, isQ]
    | arrow n l m => simp [dS, isQ]
    | same l m => simp [dS, isQ]
    | neg φ => simp [dS, isQ]
    | jn b l => cases b <;> simp [dS, isQ]
    | qu b c φ => cases b <;> simp [dS, isQ]
termination_by n φ => hg φ
decreasing_by omega
/-! ### free letters -/
abbrev dC (c : Nat) : D := .str [c]
theorem ltS_trans (a b c : List Nat) (h : ltS a b = true) (k : ltS b c = true) : ltS a c = true := by
  unfold ltS at *
  simp only [decide_eq_true_eq] at *
  exact List.lt_trans h k
theorem ltS_tri (a b : List Nat) (h : a ≠ b) (k : ¬ ltS a b = true) : ltS b a = true := by
  unfold ltS at *
  simp only [decide_eq_true_eq] at *
  exact Classical.byContradiction fun z => h (List.le_antisymm (List.not_lt.mp z) (List.not_lt.mp k))
theorem ltS_irr (a : List Nat) : ¬ ltS a a = true := by
  unfold ltS
  simp only [decide_eq_true_eq]
  exact List.lt_irrefl a
theorem sset_c (F : List Nat) (h : F.length < 64) : ∃ L : List Nat, ssetD (.lst (F.map dC)) = some (.lst (L.map dC)) ∧ L.Nodup ∧ ∀ c, c ∈ L ↔ c ∈ F := by
  have e : F.map dC = (F.map fun c => [c]).map .str := by simp
  have hr := rise_sortU (lt := ltS) ltS_trans ltS_tri (F.map fun c => [c])
  have hm : ∀ x, x ∈ sortU ltS (F.map fun c => [c]) ↔ ∃ c ∈ F, [c] = x := fun x => by rw [mem_sortU, List.mem_map]
  have key : ∀ m : List (List Nat), (∀ x ∈ m, ∃ c, [c] = x) → ∃ L : List Nat, m = L.map fun c => [c] := fun m => by
    induction m with
    | nil => exact fun _ => ⟨[], rfl⟩
    | cons x r ih =>
      intro h
      obtain ⟨c, rfl⟩ := h x (by simp)
      obtain ⟨L, rfl⟩ := ih fun y hy => h y (by simp [hy])
      exact ⟨c :: L, rfl⟩
  obtain ⟨L, hL⟩ := key _ fun x hx => let ⟨c, _, e⟩ := (hm x).mp hx; ⟨c, e⟩
  refine ⟨L, ?_, ?_, fun c => ?_⟩
  · simp only [ssetD, List.length_map, h, if_true]
    rw [e, asStrs_map]
    simp [hL]
  · rw [hL, List.pairwise_map] at hr
    exact List.Pairwise.imp (S := fun a b : Nat => a ≠ b) (fun {a b} h e => ltS_irr [b] (by rw [e] at h; exact h)) hr
  · have := hm [c]
    rw [hL] at this
    simpa using this
def hereS : Sy → List Nat
  | .mark _ l => [l]
  | .arrow _ l m => [l, m]
  | .same l m => [l, m]
  | .qu _ c _ => [c]
  | _ => []
theorem c_letters_here (k : Nat) (φ : Sy) : callN (k + 1) .letters_here [dS φ] s = some (.lst ((hereS φ).map dC), s) := by
  refine call_rt rfl ?_
  have c2 : ∀ (x y z : D), cutL [x, y, z] (some 2) none = [z] := fun _ _ _ => rfl
  have c3 : ∀ (x y z t : D), cutL [x, y, z, t] (some 2) none = [z, t] := fun _ _ _ _ => rfl
  have c4 : ∀ (x y z : D), cutL [x, y, z] (some 1) none = [y, z] := fun _ _ _ => rfl
  cases φ with
  | mark n l => simp [b_letters_here, dS, hereS, c2]
  | arrow n l m => simp [b_letters_here, dS, hereS, c3]
  | same l m => simp [b_letters_here, dS, hereS, c4]
  | neg φ => simp [b_letters_here, dS, hereS]
  | jn b l => cases b <;> simp [b_letters_here, dS, hereS]
  | qu b c φ => cases b <;> simp [b_letters_here, dS, hereS, atI_m2_3]
theorem mem_frL {c : Nat} : ∀ {l : List Sy}, c ∈ frL l ↔ ∃ ψ ∈ l, c ∈ fr ψ
  | [] => by simp [frL]
  | φ :: r => by simp [frL, mem_frL (l := r)]
theorem fr_sub {V : Voc} : ∀ (n : Nat) (φ : Sy), hg φ ≤ n → wf V φ → ∀ c ∈ fr φ, c ∈ V.lt
  | n, φ, hn, hw => by
    intro c hc
    have ih : ∀ ψ ∈ partsS φ, c ∈ fr ψ → c ∈ V.lt := fun ψ hψ hc => by
      have h1 := hg_parts ψ hψ
      exact fr_sub (n - 1) ψ (by omega) (wf_parts hw ψ hψ) c hc
    cases φ with
    | mark n l => simp [fr] at hc; subst hc; exact hw.2
    | arrow n l m => simp [fr] at hc; rcases hc with rfl | rfl; exact hw.2.1; exact hw.2.2
    | same l m => simp [fr] at hc; rcases hc with rfl | rfl; exact hw.1; exact hw.2
    | neg φ => exact ih φ (by simp [partsS]) hc
    | jn b l =>
      obtain ⟨ψ, h1, h2⟩ := mem_frL.mp hc
      exact ih ψ h1 h2
    | qu b a φ =>
      simp only [fr, List.mem_filter] at hc
      exact ih φ (by simp [partsS]) hc.1
termination_by n φ => hg φ
decreasing_by omega
theorem nodup_len {L M : List Nat} (h : L.Nodup) (k : ∀ x ∈ L, x ∈ M) : L.length ≤ M.length := by
  induction L generalizing M with
  | nil => simp
  | cons a r ih =>
    have hc := List.nodup_cons.mp h
    have := ih (M := M.erase a) hc.2 fun x hx => by
      have : x ≠ a := fun e => hc.1 (e ▸ hx)
      exact (List.mem_erase_of_ne this).mpr (k x (by simp [hx]))
    have hm := k a (by simp)
    have e := List.length_erase_of_mem hm
    have := List.length_pos_of_mem hm
    rw [List.length_cons]
    omega
theorem c_free_of {V : Voc} (hV : V.lt.length ≤ 4) : ∀ (n : Nat) (φ : Sy), hg φ ≤ n → wf V φ → ∀ k, n + 2 ≤ k → ∃ L : List Nat, callN k .free_of [dS φ] s = some (.lst (L.map dC), s) ∧ L.Nodup ∧ ∀ c, c ∈ L ↔ c ∈ fr φ
  | n, φ, hn, hw, k, hk => by
    obtain ⟨j, rfl⟩ : ∃ j, k = j + 2 := ⟨k - 2, by omega⟩
    have hl := wf_len hw
    have ih : ∀ ψ ∈ partsS φ, ∃ L : List Nat, callN (j + 1) .free_of [dS ψ] s = some (.lst (L.map dC), s) ∧ L.Nodup ∧ ∀ c, c ∈ L ↔ c ∈ fr ψ := fun ψ hψ => by
      have h1 := hg_parts ψ hψ
      exact c_free_of hV (n - 1) ψ (by omega) (wf_parts hw ψ hψ) (j + 1) (by omega)
    suffices h : ∃ d, exSs (callN (j + 1)) b_free_of [.p (dS φ), .un, .un, .un] s = some (.rt d s) ∧ ∃ L : List Nat, d = .lst (L.map dC) ∧ L.Nodup ∧ ∀ c, c ∈ L ↔ c ∈ fr φ by
      obtain ⟨d, h1, L, rfl, h2⟩ := h
      exact ⟨L, call_rt rfl h1, h2⟩
    simp only [b_free_of]
    rw [exSs_nx (ρ' := [.p (dS φ), .p (.lst []), .un, .un]) (s' := s) (by simp)]
    refine run_preR dS (fun pre ρ => ∃ (F : List Nat) (x : Sl), (x = .un ∨ ∃ d, x = .p d) ∧ F.length ≤ 4 * pre.length ∧ (∀ c, c ∈ F ↔ ∃ ψ ∈ pre, c ∈ fr ψ) ∧ ρ = [.p (dS φ), .p (.lst (F.map dC)), x, .un]) (partsS φ) (by simp [c_parts_of]) ⟨[], .un, .inl rfl, by simp, by simp, rfl⟩ (fun pre ψ post hpre ρ ⟨F, x, hx, h1, h2, e⟩ => ?_) ?_
    · subst e
      refine ⟨_, rfl, ?_⟩
      have hm : ψ ∈ partsS φ := by rw [hpre]; simp
      obtain ⟨L, g1, g2, g3⟩ := ih ψ hm
      have hlt := len_pre hpre
      have hL : L.length ≤ 4 := by
        have := nodup_len g2 (fun c hc => fr_sub (hg ψ) ψ (Nat.le_refl _) (wf_parts hw ψ hm) c ((g3 c).mp hc))
        omega
      have hb : F.length + L.length ≤ 16777216 := by omega
      refine ⟨_, ?_, F ++ L, .p (dS ψ), .inr ⟨_, rfl⟩, by simp; omega, fun c => ?_, rfl⟩
      · simp [g1, hb]
      · simp only [List.mem_append, h2, g3, List.mem_singleton]
        constructor
        · rintro (⟨a, b, c⟩ | h)
          · exact ⟨a, .inl b, c⟩
          · exact ⟨ψ, .inr rfl, h⟩
        · rintro ⟨a, b | rfl, c⟩
          · exact .inl ⟨a, b, c⟩
          · exact .inr c
    · rintro ρ ⟨F, x, hx, h1, h2, rfl⟩
      by_cases hq : ∃ b c ψ, φ = .qu b c ψ
      · obtain ⟨b, c, ψ, rfl⟩ := hq
        obtain ⟨L, g1, g2, g3⟩ := sset_c (F.filter fun a => a != c) (by
          have := List.length_filter_le (fun a => a != c) F
          simp [partsS] at h1
          omega)
        have hix : ixD (dS (.qu b c ψ)) (.int (-2)) = some (dC c) := by simp [dS, atI_m2_3]
        refine ⟨_, ?_, L, rfl, g2, fun a => ?_⟩
        · have hc : evE (callN (j + 1)) (.comp true (.var 3) (.one 3) (.val (.var 1)) (.cmp .ne (.var 3) (.ix (.var 0) (.neg (.int 2))))) [.p (dS (.qu b c ψ)), .p (.lst (F.map dC)), x, .un] s = some (.lst ((F.filter fun a => a != c).map dC), s) := by
            refine ev_comp_f (e := dC) (l := F) dC _ (by simp) (by simp) (by simp [partsS] at h1; omega) (fun q hq => ⟨_, rfl, ?_, by simp⟩)
            by_cases e : q = c <;> simp [hix, e]
          cases b <;> simp [dS] at hc <;> simp [dS, hc, g1]
        · rw [g3]
          simp only [List.mem_filter, h2, partsS, fr, List.mem_singleton]
          simp
      · have hh : (hereS φ).length ≤ 2 := by cases φ <;> simp [hereS]
        obtain ⟨L, g1, g2, g3⟩ := sset_c (F ++ hereS φ) (by rw [List.length_append]; omega)
        have hb : F.length + (hereS φ).length ≤ 16777216 := by omega
        have hlh := c_letters_here (s := s) j φ
        rw [List.map_append] at g1
        refine ⟨_, ?_, L, rfl, g2, fun a => ?_⟩
        · cases φ with
          | qu b c ψ => exact absurd ⟨_, _, _, rfl⟩ hq
          | mark n l => simp [dS, hereS] at hlh g1 hb; simp [dS, hlh, g1, hb]
          | arrow n l m => simp [dS, hereS] at hlh g1 hb; simp [dS, hlh, g1, hb]
          | same l m => simp [dS, hereS] at hlh g1 hb; simp [dS, hlh, g1, hb]
          | neg ψ => simp [dS, hereS] at hlh g1 hb; simp [dS, hlh, g1, hb]
          | jn b l => cases b <;> simp [dS, hereS] at hlh g1 hb <;> simp [dS, hlh, g1, hb]
        · rw [g3, List.mem_append, h2]
          cases φ with
          | qu b c ψ => exact absurd ⟨_, _, _, rfl⟩ hq
          | mark n l => simp [partsS, hereS, fr]
          | arrow n l m => simp [partsS, hereS, fr]
          | same l m => simp [partsS, hereS, fr]
          | neg ψ => simp [partsS, hereS, fr]
          | jn b l => simp [partsS, hereS, fr, mem_frL]
termination_by n φ => hg φ
decreasing_by omega
end
end Pk
end
section
-- PuTru
set_option linter.all false
set_option maxRecDepth 10000
/-! Truth, run. -/
namespace Pk
open PySem
section
variable {s : Sh}
theorem semA_all (w : W) (e : Nat → Int) : ∀ l, semA w l e = l.all fun φ => sem w φ e
  | [] => rfl
  | φ :: r => by simp [semA, semA_all w e r]
theorem semO_any (w : W) (e : Nat → Int) : ∀ l, semO w l e = l.any fun φ => sem w φ e
  | [] => rfl
  | φ :: r => by simp [semO, semO_any w e r]
theorem sem_some (w : W) (c : Nat) (φ : Sy) (e : Nat → Int) : sem w (.qu true c φ) e = (rngI w.n).any fun x => sem w φ (upd1 e c x) := by
  simp only [sem, rngI, List.any_map]
  rfl
theorem sem_every (w : W) (c : Nat) (φ : Sy) (e : Nat → Int) : sem w (.qu false c φ) e = (rngI w.n).all fun x => sem w φ (upd1 e c x) := by
  simp only [sem, rngI, List.all_map]
  rfl
/-! ### dictionaries -/
theorem lookS_app {α : Type} (k k' : List Nat) (v : α) : ∀ l : List (List Nat × α), lookS k (l ++ [(k', v)]) = match lookS k l with | some x => some x | none => if k' = k then some v else none
  | [] => by simp [lookS]
  | (a, x) :: r => by
    have := lookS_app k k' v r
    simp only [List.cons_append, lookS, this]
    split <;> rfl
theorem look_map {α : Type} (k k' : List Nat) (v : α) : ∀ l : List (List Nat × α), lookS k (l.map fun p => if p.1 = k' then (p.1, v) else p) = (lookS k l).map fun x => if k = k' then v else x
  | [] => rfl
  | (a, x) :: r => by
    have := look_map k k' v r
    simp only [List.map_cons, lookS]
    by_cases h : a = k' <;> by_cases h2 : a = k
    · subst h; subst h2; simp [lookS]
    · simp [h, lookS, this]
      by_cases h3 : k' = k
      · exact absurd (h.trans h3) h2
      · have : ¬ a = k := h2
        simp [h3, h2]
    · subst h2; simp [h, lookS]
    · simp [h, h2, lookS, this]
theorem any_look {α : Type} (k : List Nat) : ∀ l : List (List Nat × α), (l.any fun p => decide (p.1 = k)) = (lookS k l).isSome
  | [] => rfl
  | (a, x) :: r => by
    have := any_look k r
    by_cases h : a = k <;> simp [lookS, h, this]
theorem lookS_putS {α : Type} (k k' : List Nat) (v : α) (l : List (List Nat × α)) : lookS k (putS k' v l) = if k = k' then some v else lookS k l := by
  unfold putS
  rw [any_look]
  by_cases h : (lookS k' l).isSome = true
  · rw [if_pos h, look_map]
    by_cases e : k = k'
    · subst e
      obtain ⟨x, hx⟩ := Option.isSome_iff_exists.mp h
      simp [hx]
    · simp [e]
  · rw [if_neg h, lookS_app]
    by_cases e : k = k'
    · subst e
      have : lookS k l = none := by simpa using h
      simp [this]
    · have e' : ¬ k' = k := fun z => e z.symm
      simp only [e, e', if_false]
      cases lookS k l <;> rfl
theorem putS_len {α : Type} (k : List Nat) (v : α) (l : List (List Nat × α)) : (putS k v l).length ≤ l.length + 1 := by
  unfold putS
  split <;> simp
/-! ### the defs -/
theorem c_what_hasM (k : Nat) (l : List (List Nat × List Int)) (n : List Nat) (xs : List Int) (h : lookS n l = some xs) : callN (k + 1) .what_has [.tup (l.map dM), .str n] s = some (.tup (xs.map .int), s) := by
  refine call_rt rfl ?_
  simp [b_what_has]
  have go : ∀ (m : List (List Nat × List Int)) (x : Sl), lookS n m = some xs → forL (fun x ρ s => match bindT (.one 2) x ρ with
      | some ρ1 => exSs (callN k) (.cons (.iff (.cmp .eq (.ix (.var 2) (.int 0)) (.var 1)) (.cons (.ret (.ix (.var 2) (.int 1))) .nil) .nil) .nil) ρ1 s
      | none => none) (m.map dM) [.p (.tup (l.map dM)), .p (.str n), x] s = some (.rt (.tup (xs.map .int)) s) := fun m => by
    induction m with
    | nil => intro x h; cases h
    | cons a r ih =>
      intro x h
      rw [List.map_cons, forL]
      by_cases e : a.1 = n
      · have : a.2 = xs := by
          obtain ⟨a1, a2⟩ := a
          simp only [lookS] at h e ⊢
          simpa [e] using h
        simp [e, this]
      · have h' : lookS n r = some xs := by
          obtain ⟨a1, a2⟩ := a
          simp only [lookS] at h e ⊢
          simpa [e] using h
        have := ih (.p (dM a)) h'
        simp [e]
        simpa using this
  rw [exSs_rt (d := .tup (xs.map .int)) (s' := s)]
  rw [exS.eq_def]
  simp only [evI, evE, List.getElem?_cons_zero, itemsD, Option.map_some]
  exact go l .un h
theorem c_what_hasA (k : Nat) (l : List (List Nat × PS)) (n : List Nat) (xs : PS) (h : lookS n l = some xs) : callN (k + 1) .what_has [.tup (l.map dA), .str n] s = some (.tup (xs.map ofPair), s) := by
  refine call_rt rfl ?_
  simp [b_what_has]
  have go : ∀ (m : List (List Nat × PS)) (x : Sl), lookS n m = some xs → forL (fun x ρ s => match bindT (.one 2) x ρ with
      | some ρ1 => exSs (callN k) (.cons (.iff (.cmp .eq (.ix (.var 2) (.int 0)) (.var 1)) (.cons (.ret (.ix (.var 2) (.int 1))) .nil) .nil) .nil) ρ1 s
      | none => none) (m.map dA) [.p (.tup (l.map dA)), .p (.str n), x] s = some (.rt (.tup (xs.map ofPair)) s) := fun m => by
    induction m with
    | nil => intro x h; cases h
    | cons a r ih =>
      intro x h
      rw [List.map_cons, forL]
      by_cases e : a.1 = n
      · have : a.2 = xs := by
          obtain ⟨a1, a2⟩ := a
          simp only [lookS] at h e ⊢
          simpa [e] using h
        simp [e, this]
      · have h' : lookS n r = some xs := by
          obtain ⟨a1, a2⟩ := a
          simp only [lookS] at h e ⊢
          simpa [e] using h
        have := ih (.p (dA a)) h'
        simp [e]
        simpa using this
  rw [exSs_rt (d := .tup (xs.map ofPair)) (s' := s)]
  rw [exS.eq_def]
  simp only [evI, evE, List.getElem?_cons_zero, itemsD, Option.map_some]
  exact go l .un h
theorem c_bears (k : Nat) (w : W) (n : List Nat) (x : Int) (xs : List Int) (h : lookS n w.ms = some xs) : callN (k + 2) .bears [dW w, .str n, .int x] s = some (.bl (decide (x ∈ xs)), s) := by
  refine call_rt rfl ?_
  simp [b_bears, c_what_hasM k w.ms n xs h]
theorem c_leads (k : Nat) (w : W) (n : List Nat) (x y : Int) (xs : PS) (h : lookS n w.as = some xs) : callN (k + 2) .leads [dW w, .str n, .int x, .int y] s = some (.bl (decide ((x, y) ∈ xs)), s) := by
  refine call_rt rfl ?_
  simp [b_leads, c_what_hasA k w.as n xs h]
theorem c_with_letter (k : Nat) (pl : List (List Nat × Int)) (c : Nat) (x : Int) (h : pl.length < 16777216) : callN (k + 1) .with_letter [.dic pl, dC c, .int x] s = some (.dic (putS [c] x pl), s) := by
  refine call_rt rfl ?_
  simp [b_with_letter, h]
theorem c_joined (k : Nat) (w : W) (l : List Sy) (pl : List (List Nat × Int)) (due : Bool) (f : Sy → Bool) (h : ∀ ψ ∈ l, callN k .true_at [dW w, dS ψ, .dic pl] s = some (.bl (f ψ), s)) :
    callN (k + 1) .joined [dW w, .tup (l.map dS), .dic pl, .bl due] s = some (.bl (l.all fun ψ => f ψ == due), s) := by
  refine call_rt rfl ?_
  simp [b_joined]
  rw [← Bool.and_true (l.all _)]
  refine run_all dS (fun ψ => f ψ == due) (fun ρ => ∃ x, ρ = [.p (dW w), .p (.tup (l.map dS)), .p (.dic pl), .p (.bl due), x]) l (by simp) ⟨_, rfl⟩ (fun ψ hψ ρ ⟨x, e⟩ => ?_) ?_
  · subst e
    refine ⟨_, rfl, ?_⟩
    have := h ψ hψ
    cases hf : f ψ <;> cases due <;> rw [hf] at this <;> simp [this]
  · rintro _ ρ ⟨x, rfl⟩
    simp
theorem c_for_each (k : Nat) (w : W) (c : Nat) (φ : Sy) (pl : List (List Nat × Int)) (f : Int → Bool) (hp : pl.length < 16777216) (hn : small? w.n = true) (h : ∀ x ∈ rngI w.n, callN (k + 1) .true_at [dW w, dS φ, .dic (putS [c] x pl)] s = some (.bl (f x), s)) :
    callN (k + 2) .for_each [dW w, dC c, dS φ, .dic pl] s = some (.bl ((rngI w.n).all f), s) := by
  refine call_rt rfl ?_
  simp [b_for_each]
  rw [← Bool.and_true ((rngI w.n).all _)]
  refine run_all .int f (fun ρ => ∃ x, ρ = [.p (dW w), .p (dC c), .p (dS φ), .p (.dic pl), x]) (rngI w.n) (by simp [hn, rng_I]) ⟨_, rfl⟩ (fun x hx ρ ⟨y, e⟩ => ?_) ?_
  · subst e
    refine ⟨_, rfl, ?_⟩
    have := h x hx
    cases hf : f x <;> rw [hf] at this <;> simp [this, c_with_letter k pl c x hp]
  · rintro _ ρ ⟨x, rfl⟩
    simp
theorem c_often (k : Nat) (w : W) (c : Nat) (φ : Sy) (pl : List (List Nat × Int)) (f : Int → Bool) (hp : pl.length < 16777216) (hn : small? w.n = true) (h : ∀ x ∈ rngI w.n, callN (k + 1) .true_at [dW w, dS φ, .dic (putS [c] x pl)] s = some (.bl (f x), s)) :
    callN (k + 2) .often [dW w, dC c, dS φ, .dic pl, .int 1] s = some (.bl ((rngI w.n).any f), s) := by
  refine call_rt rfl ?_
  simp [b_often]
  refine run_pre .int (fun pre ρ => ∃ x, ρ = [.p (dW w), .p (dC c), .p (dS φ), .p (.dic pl), .p (.int 1), .p (.int (if pre.any f = true then 1 else 0)), x]) (rngI w.n) (by simp [hn, rng_I]) ⟨.un, by simp⟩ (fun pre x post hpre ρ ⟨y, e⟩ => ?_) ?_
  · subst e
    refine ⟨_, rfl, ?_⟩
    have := h x (by rw [hpre]; simp)
    refine ⟨_, ?_, .p (.int x), rfl⟩
    cases hf : f x <;> cases ha : pre.any f <;> rw [hf] at this <;> simp [this, c_with_letter k pl c x hp, ha, hf]
  · rintro ρ ⟨x, rfl⟩
    cases ha : (rngI w.n).any f <;> simp [ha]
/-- the tongue's names are the world's -/
def VW (V : Voc) (w : W) : Prop := (∀ n ∈ V.tm, ∃ xs, lookS n w.ms = some xs) ∧ ∀ n ∈ V.ta, ∃ xs, lookS n w.as = some xs
theorem c_true_at {V : Voc} {w : W} (hV : VW V w) (hn : small? w.n = true) : ∀ (m : Nat) (φ : Sy), hg φ ≤ m → wf V φ → ∀ (e : Nat → Int) (pl : List (List Nat × Int)), (∀ c ∈ fr φ, lookS [c] pl = some (e c)) → pl.length + m < 10000 → ∀ k, 2 * m + 3 ≤ k → callN k .true_at [dW w, dS φ, .dic pl] s = some (.bl (sem w φ e), s)
  | m, φ, hm, hw, e, pl, hpl, hlen, k, hk => by
    obtain ⟨j, rfl⟩ : ∃ j, k = j + 3 := ⟨k - 3, by omega⟩
    have ih : ∀ ψ ∈ partsS φ, ∀ (e : Nat → Int) (pl' : List (List Nat × Int)), (∀ c ∈ fr ψ, lookS [c] pl' = some (e c)) → pl'.length ≤ pl.length + 1 → ∀ i, j + 1 ≤ i → callN i .true_at [dW w, dS ψ, .dic pl'] s = some (.bl (sem w ψ e), s) := fun ψ hψ e pl' h1 h2 i hi => by
      have h3 := hg_parts ψ hψ
      exact c_true_at hV hn (m - 1) ψ (by omega) (wf_parts hw ψ hψ) e pl' h1 (by omega) i (by omega)
    refine call_rt rfl ?_
    cases φ with
    | mark n l =>
      obtain ⟨xs, hx⟩ := hV.1 n hw.1
      have h1 := hpl l (by simp [fr])
      simp [b_true_at, dS, h1, c_bears (j) w n (e l) xs hx, sem, hx]
    | arrow n l m =>
      obtain ⟨xs, hx⟩ := hV.2 n hw.1
      have h1 := hpl l (by simp [fr])
      have h2 := hpl m (by simp [fr])
      simp [b_true_at, dS, h1, h2, c_leads (j) w n (e l) (e m) xs hx, sem, hx]
    | same l m =>
      have h1 := hpl l (by simp [fr])
      have h2 := hpl m (by simp [fr])
      simp [b_true_at, dS, h1, h2, sem]
    | neg ψ =>
      have h1 := ih ψ (by simp [partsS]) e pl (fun c hc => hpl c hc) (by omega) (j + 2) (by omega)
      simp [b_true_at, dS, h1, sem]
    | jn b l =>
      have h1 : ∀ ψ ∈ l, callN (j + 1) .true_at [dW w, dS ψ, .dic pl] s = some (.bl (sem w ψ e), s) := fun ψ hψ => ih ψ hψ e pl (fun c hc => hpl c (mem_frL.mpr ⟨ψ, hψ, hc⟩)) (by omega) (j + 1) (by omega)
      cases b with
      | true =>
        have := c_joined (s := s) (j + 1) w l pl true (fun ψ => sem w ψ e) h1
        simp [b_true_at, dS, dSL_map, this, sem, semA_all]
      | false =>
        have := c_joined (s := s) (j + 1) w l pl false (fun ψ => sem w ψ e) h1
        have hx : (!l.all fun ψ => !sem w ψ e) = l.any fun ψ => sem w ψ e := by
          rw [List.not_all_eq_any_not]
          simp
        simp [b_true_at, dS, dSL_map, this, sem, semO_any, hx]
    | qu b c ψ =>
      have h1 : ∀ x ∈ rngI w.n, callN (j + 1) .true_at [dW w, dS ψ, .dic (putS [c] x pl)] s = some (.bl (sem w ψ (upd1 e c x)), s) := fun x hx => ih ψ (by simp [partsS]) (upd1 e c x) (putS [c] x pl) (fun a ha => by
        rw [lookS_putS]
        unfold upd1
        by_cases z : a = c
        · simp [z]
        · simp only [List.cons.injEq, and_true, z, if_false]
          exact hpl a (by simp [fr, ha, z])) (putS_len _ _ _) (j + 1) (by omega)
      cases b with
      | true =>
        have := c_often (s := s) j w c ψ pl (fun x => sem w ψ (upd1 e c x)) (by omega) hn h1
        simp [b_true_at, dS, this, sem_some]
      | false =>
        have := c_for_each (s := s) j w c ψ pl (fun x => sem w ψ (upd1 e c x)) (by omega) hn h1
        simp [b_true_at, dS, this, sem_every]
termination_by m φ => hg φ
decreasing_by omega
/-! ### no strange name -/
def VT (V : Voc) (w : W) : Prop := (∀ n ∈ V.tm, n ∈ w.ms.map Prod.fst ∧ ∀ c ∈ n, c < 1114112) ∧ ∀ n ∈ V.ta, n ∈ w.as.map Prod.fst ∧ ∀ c ∈ n, c < 1114112
theorem in_names {α : Type} (l : List (List Nat × α)) (n : List Nat) (h : n ∈ l.map Prod.fst) (hl : ∀ m ∈ l, ∀ c ∈ m.1, c < 1114112) (hn : ∀ c ∈ n, c < 1114112) : inD (.str n) (.tup (l.map fun m => .str m.1)) = some true := by
  obtain ⟨c, h1, h2⟩ := in_tup (n := 0) (m := 0) (x := .str n) (l := l.map fun m => .str m.1) (Sd.str hn) (fun d hd => by
    obtain ⟨m, hm, rfl⟩ := List.mem_map.mp hd
    exact Sd.str (hl m hm)) (by omega) (by omega)
  rw [h1, h2.mpr (by
    obtain ⟨m, hm, rfl⟩ := List.mem_map.mp h
    exact List.mem_map.mpr ⟨m, hm, rfl⟩)]
theorem c_strange {V : Voc} {w : W} (hT : VT V w) (hN : Nok w) : ∀ (m : Nat) (φ : Sy), hg φ ≤ m → wf V φ → ∀ k, m + 2 ≤ k → callN k .strange [dS φ, dT w] s = some (.non, s)
  | m, φ, hm, hw, k, hk => by
    obtain ⟨j, rfl⟩ : ∃ j, k = j + 2 := ⟨k - 2, by omega⟩
    have ih : ∀ ψ ∈ partsS φ, callN (j + 1) .strange [dS ψ, dT w] s = some (.non, s) := fun ψ hψ => by
      have h3 := hg_parts ψ hψ
      exact c_strange hT hN (m - 1) ψ (by omega) (wf_parts hw ψ hψ) (j + 1) (by omega)
    refine call_rt rfl ?_
    simp only [body, b_strange, startE, List.map_cons, List.map_nil, nsl, np, List.replicate, List.cons_append, List.nil_append]
    rw [exSs_nx (ρ' := [.p (dS φ), .p (dT w), .un, .un]) (s' := s) (by
      cases φ with
      | mark n l =>
        have := in_names w.ms n (hT.1 n hw.1).1 hN.1 (hT.1 n hw.1).2
        simp [dS, dT, this]
      | arrow n l m =>
        have := in_names w.as n (hT.2 n hw.1).1 hN.2 (hT.2 n hw.1).2
        simp [dS, dT, this]
      | same l m => simp [dS]
      | neg ψ => simp [dS]
      | jn b l => cases b <;> simp [dS]
      | qu b c ψ => cases b <;> simp [dS])]
    refine run_pre dS (fun pre ρ => ∃ x y, ρ = [.p (dS φ), .p (dT w), x, y]) (partsS φ) (by simp [c_parts_of]) ⟨_, _, rfl⟩ (fun pre ψ post hpre ρ ⟨x, y, e⟩ => ?_) ?_
    · subst e
      refine ⟨_, rfl, ?_⟩
      have := ih ψ (by rw [hpre]; simp)
      refine ⟨_, ?_, .p (dS ψ), .p .non, rfl⟩
      simp [this]
    · rintro ρ ⟨x, y, rfl⟩
      simp
termination_by m φ => hg φ
decreasing_by omega
theorem c_holds {V : Voc} {w : W} (hT : VT V w) (hV : VW V w) (hN : Nok w) (hn : small? w.n = true) (hw1 : w.ms.length ≤ 100) (hw2 : w.as.length ≤ 100) (h4 : V.lt.length ≤ 4) (φ : Sy) (hφ : wf V φ) (hc : fr φ = []) (hh : hg φ ≤ 1000) (k : Nat) (hk : 2 * hg φ + 5 ≤ k) : callN k .holds [dW w, dS φ, .non] s = some (.bl (sem w φ fun _ => 0), s) := by
  obtain ⟨j, rfl⟩ : ∃ j, k = j + 1 := ⟨k - 1, by omega⟩
  refine call_rt rfl ?_
  have h1 := c_strange (s := s) hT hN (hg φ) φ (Nat.le_refl _) hφ j (by omega)
  obtain ⟨L, h2, _, h3⟩ := c_free_of (s := s) h4 (hg φ) φ (Nat.le_refl _) hφ j (by omega)
  have hL : L = [] := List.eq_nil_iff_forall_not_mem.mpr fun c hc' => by
    have := (h3 c).mp hc'
    rw [hc] at this
    cases this
  subst hL
  have h5 := c_true_at (s := s) hV hn (hg φ) φ (Nat.le_refl _) hφ (fun _ => 0) [] (fun c hc' => by rw [hc] at hc'; cases hc') (by simp; omega) j (by omega)
  unfold dT at h1
  simp [b_holds]
  rw [ev_comp_m (e := dM) (l := w.ms) (fun m => .str m.1) (by simp) (by simp) (by omega) (fun q hq => ⟨_, rfl, by simp⟩)]
  simp
  rw [ev_comp_m (e := dA) (l := w.as) (fun m => .str m.1) (by simp) (by simp) (by omega) (fun q hq => ⟨_, rfl, by simp⟩)]
  simp [h1]
  refine run_pre dC (fun pre ρ => ρ = [.p (dW w), .p (dS φ), .p .non, .p (.tup [.tup (w.ms.map fun m => .str m.1), .tup (w.as.map fun m => .str m.1)]), .p .non, .o (.dic []), .un, .un]) [] (by simp at h2; simp [h2]) rfl (fun pre x post hpre => by simp at hpre) ?_
  rintro ρ rfl
  simp [h5]
end
end Pk
end
section
-- PuLtr
set_option linter.all false
set_option maxRecDepth 10000
/-! The law's own truth, run. -/
namespace Pk
open PySem
section
variable {s : Sh}
theorem head_look {α : Type} (n : List Nat) : ∀ (l : List (List Nat × α)) (xs : α), lookS n l = some xs → ∃ r, (l.filter fun m => decide (m.1 = n)) = (n, xs) :: r
  | [], _, h => by cases h
  | (a, x) :: l, xs, h => by
    by_cases e : a = n
    · subst e
      simp [lookS] at h
      subst h
      exact ⟨_, by simp; rfl⟩
    · have h' : lookS n l = some xs := by simpa [lookS, e] using h
      obtain ⟨r, hr⟩ := head_look n l xs h'
      exact ⟨r, by simp [e, hr]⟩
theorem cnt_any {f : Int → Bool} (l : List Int) : decide ((0 : Int) < ((l.filter f).length : Nat)) = l.any f := by
  rw [Bool.eq_iff_iff]
  simp only [decide_eq_true_eq, List.any_eq_true]
  constructor
  · intro h
    obtain ⟨x, hx⟩ := List.exists_mem_of_length_pos (l := l.filter f) (by omega)
    exact ⟨x, List.mem_filter.mp hx⟩
  · rintro ⟨x, h1, h2⟩
    have := List.length_pos_of_mem (List.mem_filter.mpr ⟨h1, h2⟩)
    omega
theorem cnt_all {f : Int → Bool} (l : List Int) : decide (((l.filter f).length : Int) = (l.length : Nat)) = l.all f := by
  rw [Bool.eq_iff_iff]
  simp only [decide_eq_true_eq, List.all_eq_true]
  constructor
  · intro h
    have := (List.filter_sublist (p := f) (l := l)).eq_of_length (by omega)
    intro x hx
    rw [← this] at hx
    exact (List.mem_filter.mp hx).2
  · intro h
    rw [List.filter_eq_self.mpr h]
theorem c_enough (k : Nat) (w : W) (b : Bool) (c : Nat) (φ : Sy) (pl : List (List Nat × Int)) (f : Int → Bool) (hp : pl.length < 16777216) (h0 : 0 ≤ w.n) (hn : small? w.n = true) (h : ∀ x ∈ rngI w.n, callN k .law_true [dW w, dS φ, .dic (putS [c] x pl)] s = some (.bl (f x), s)) :
    callN (k + 1) .law_enough [dW w, dS (.qu b c φ), .dic pl] s = some (.bl (if b = true then (rngI w.n).any f else (rngI w.n).all f), s) := by
  refine call_rt rfl ?_
  have i2 : ixD (dS (.qu b c φ)) (.int (-2)) = some (dC c) := by simp [dS, atI_m2_3]
  have i1 : ixD (dS (.qu b c φ)) (.int (-1)) = some (dS φ) := by simp [dS, atI_m1_3]
  have i0 : ixD (dS (.qu b c φ)) (.int 0) = some (.str (if b = true then [115, 111, 109, 101] else [101, 118, 101, 114, 121])) := by simp [dS]
  simp [b_law_enough]
  refine run_pre .int (fun pre ρ => ∃ x y, ρ = [.p (dW w), .p (dS (.qu b c φ)), .p (.dic pl), .p (.int ((pre.filter f).length : Nat)), x, y]) (rngI w.n) (by simp [hn, rng_I]) ⟨.un, .un, by simp⟩ (fun pre x post hpre ρ ⟨y, z, e⟩ => ?_) ?_
  · subst e
    refine ⟨_, rfl, ?_⟩
    have := h x (by rw [hpre]; simp)
    refine ⟨_, ?_, .p (.int x), .p (.dic (putS [c] x pl)), rfl⟩
    cases hf : f x <;> rw [hf] at this <;> simp [this, i1, i2, hp, hf]
  · rintro ρ ⟨x, y, rfl⟩
    have e1 := cnt_any (f := f) (rngI w.n)
    have e2 := cnt_all (f := f) (rngI w.n)
    have e3 : ((rngI w.n).length : Int) = w.n := by rw [rngI_len]; omega
    rw [e3] at e2
    rw [← e1, ← e2]
    generalize ((rngI w.n).filter f).length = q
    cases b <;> simp [i0]
theorem c_law_true {V : Voc} {w : W} (hV : VW V w) (hT : VT V w) (hN : Nok w) (h0 : 0 ≤ w.n) (hn : small? w.n = true) (hw1 : w.ms.length ≤ 100) (hw2 : w.as.length ≤ 100) : ∀ (m : Nat) (φ : Sy), hg φ ≤ m → wf V φ → ∀ (e : Nat → Int) (pl : List (List Nat × Int)), (∀ c ∈ fr φ, lookS [c] pl = some (e c)) → pl.length + m < 10000 → ∀ k, 2 * m + 3 ≤ k → callN k .law_true [dW w, dS φ, .dic pl] s = some (.bl (sem w φ e), s)
  | m, φ, hm, hw, e, pl, hpl, hlen, k, hk => by
    obtain ⟨j, rfl⟩ : ∃ j, k = j + 3 := ⟨k - 3, by omega⟩
    have ih : ∀ ψ ∈ partsS φ, ∀ (e : Nat → Int) (pl' : List (List Nat × Int)), (∀ c ∈ fr ψ, lookS [c] pl' = some (e c)) → pl'.length ≤ pl.length + 1 → ∀ i, j + 1 ≤ i → callN i .law_true [dW w, dS ψ, .dic pl'] s = some (.bl (sem w ψ e), s) := fun ψ hψ e pl' h1 h2 i hi => by
      have h3 := hg_parts ψ hψ
      exact c_law_true hV hT hN h0 hn hw1 hw2 (m - 1) ψ (by omega) (wf_parts hw ψ hψ) e pl' h1 (by omega) i (by omega)
    refine call_rt rfl ?_
    cases φ with
    | mark n l =>
      obtain ⟨xs, hx⟩ := hV.1 n hw.1
      obtain ⟨r, hr⟩ := head_look n w.ms xs hx
      have h1 := hpl l (by simp [fr])
      simp [b_law_true, dS, h1]
      rw [ev_comp_f (e := dM) (l := w.ms) (fun m => .tup (m.2.map .int)) (fun m => decide (m.1 = n)) (by simp) (by simp) (by omega) (fun q hq => ⟨_, by simp [dM]; rfl, by simp, by simp⟩), hr]
      simp [sem, hx]
    | arrow n l m =>
      obtain ⟨xs, hx⟩ := hV.2 n hw.1
      obtain ⟨r, hr⟩ := head_look n w.as xs hx
      have h1 := hpl l (by simp [fr])
      have h2 := hpl m (by simp [fr])
      simp [b_law_true, dS]
      rw [ev_comp_f (e := dA) (l := w.as) (fun m => .tup (m.2.map ofPair)) (fun m => decide (m.1 = n)) (by simp) (by simp) (by omega) (fun q hq => ⟨_, by simp [dA]; rfl, by simp, by simp⟩), hr]
      simp [sem, hx, h1, h2]
    | same l m =>
      have h1 := hpl l (by simp [fr])
      have h2 := hpl m (by simp [fr])
      simp [b_law_true, dS, h1, h2, sem]
    | neg ψ =>
      have h1 := ih ψ (by simp [partsS]) e pl (fun c hc => hpl c hc) (by omega) (j + 2) (by omega)
      simp [b_law_true, dS, h1, sem]
    | jn b l =>
      have h1 : ∀ ψ ∈ l, callN (j + 2) .law_true [dW w, dS ψ, .dic pl] s = some (.bl (sem w ψ e), s) := fun ψ hψ => ih ψ hψ e pl (fun c hc => hpl c (mem_frL.mpr ⟨ψ, hψ, hc⟩)) (by omega) (j + 2) (by omega)
      have hor : ∀ (u : Bool) (ρ : En), (∃ x y z t, ρ = [Sl.p (dW w), .p (dS (.jn b l)), .p (.dic pl), .p (.str (if b = true then [97, 110, 100] else [111, 114])), x, y, z, t]) →
          exSs (callN (j + 2)) (.cons (.for_ (.one 5) (.val (.ix (.var 1) (.int 1))) (.cons (.iff (.cmp .eq (.call .law_true (.cons (.var 0) (.cons (.var 5) (.cons (.var 2) .nil)))) (.cmp .eq (.var 3) (.str [111, 114]))) (.cons (.ret (.cmp .eq (.var 3) (.str [111, 114]))) .nil) .nil) .nil)) (.cons (.ret (.cmp .eq (.var 3) (.str [97, 110, 100]))) .nil)) ρ s = some (.rt (.bl (sem w (.jn b l) e)) s) := by
        rintro u ρ ⟨x, y, z, t, rfl⟩
        refine run_q dS (fun ψ => sem w ψ e == !b) (.bl (!b)) (fun ρ => ∃ x y z t, ρ = [Sl.p (dW w), .p (dS (.jn b l)), .p (.dic pl), .p (.str (if b = true then [97, 110, 100] else [111, 114])), x, y, z, t]) l (by simp [dS, dSL_map]) ⟨_, _, _, _, rfl⟩ (fun ψ hψ ρ ⟨x, y, z, t, e'⟩ => ?_) (fun h => ?_) (fun h ρ ⟨x, y, z, t, e'⟩ => ?_)
        · subst e'
          refine ⟨_, rfl, ?_⟩
          have := h1 ψ hψ
          cases b <;> cases hq : sem w ψ e <;> rw [hq] at this <;> simp [this]
        · cases b
          · have : sem w (.jn false l) e = true := by
              simp only [sem, semO_any]
              simpa using h
            rw [this]
            rfl
          · have : sem w (.jn true l) e = false := by
              simp only [sem, semA_all]
              simpa using h
            rw [this]
            rfl
        · subst e'
          cases b
          · have : sem w (.jn false l) e = false := by
              simp only [sem, semO_any]
              simpa using h
            simp [this]
          · have : sem w (.jn true l) e = true := by
              simp only [sem, semA_all]
              simpa using h
            simp [this]
      have hgo := hor true [.p (dW w), .p (dS (.jn b l)), .p (.dic pl), .p (.str (if b = true then [97, 110, 100] else [111, 114])), .un, .un, .un, .un] ⟨_, _, _, _, rfl⟩
      cases b <;> simp [dS] at hgo <;> simp [b_law_true, dS, hgo]
    | qu b c ψ =>
      have h1 : ∀ x ∈ rngI w.n, callN (j + 1) .law_true [dW w, dS ψ, .dic (putS [c] x pl)] s = some (.bl (sem w ψ (upd1 e c x)), s) := fun x hx => ih ψ (by simp [partsS]) (upd1 e c x) (putS [c] x pl) (fun a ha => by
        rw [lookS_putS]
        unfold upd1
        by_cases z : a = c
        · simp [z]
        · simp only [List.cons.injEq, and_true, z, if_false]
          exact hpl a (by simp [fr, ha, z])) (putS_len _ _ _) (j + 1) (by omega)
      have := c_enough (s := s) (j + 1) w b c ψ pl (fun x => sem w ψ (upd1 e c x)) (by omega) h0 hn h1
      cases b with
      | true =>
        simp [dS] at this
        simp [b_law_true, dS, this, sem_some]
      | false =>
        simp [dS] at this
        simp [b_law_true, dS, this, sem_every]
termination_by m φ => hg φ
decreasing_by omega
end
end Pk
end
section
-- PuShow
set_option linter.all false
set_option maxRecDepth 10000
/-! A saying's text, run. -/
namespace Pk
open PySem
def wJ (b : Bool) : List Nat := if b = true then [97, 110, 100] else [111, 114]
def wQ (b : Bool) : List Nat := if b = true then [115, 111, 109, 101] else [101, 118, 101, 114, 121]
def wE (b : Bool) : List Nat := if b = true then [116, 114, 117, 101] else [102, 97, 108, 115, 101]
mutual
def sh : Sy → List Nat
  | .mark n l => n ++ [40] ++ [l] ++ [41]
  | .arrow n l m => n ++ [40] ++ [l] ++ [32] ++ [m] ++ [41]
  | .same l m => [l] ++ [32, 61, 32] ++ [m]
  | .neg φ => [110, 111, 116, 32] ++ sh φ
  | .qu b c φ => wQ b ++ [32] ++ [c] ++ [32] ++ sh φ
  | .jn b [] => wE b
  | .jn b (φ :: r) => [40] ++ joinL ([32] ++ wJ b ++ [32]) (shL (φ :: r)) ++ [41]
def shL : List Sy → List (List Nat)
  | [] => []
  | φ :: r => sh φ :: shL r
end
theorem shL_map : ∀ l, shL l = l.map sh
  | [] => rfl
  | φ :: r => by rw [shL, shL_map r]; rfl
theorem joinL_len (z : List Nat) : ∀ l : List (List Nat), joinSize z.length l ≤ (joinL z l).length + z.length
  | [] => by simp [joinSize]
  | [x] => by simp [joinSize, joinL]
  | x :: y :: r => by
    have := joinL_len z (y :: r)
    simp only [joinSize, joinL, List.length_append] at this ⊢
    omega
theorem joinL_mem (z : List Nat) : ∀ (l : List (List Nat)) (x : List Nat), x ∈ l → x.length ≤ (joinL z l).length
  | [], _, h => by cases h
  | [y], x, h => by simp at h; subst h; exact Nat.le_refl _
  | y :: w :: r, x, h => by
    simp only [joinL, List.length_append]
    rcases List.mem_cons.mp h with rfl | h
    · omega
    · have := joinL_mem z (w :: r) x h
      omega
section
variable {s : Sh}
structure Vok (V : Voc) : Prop where
  tm : ∀ n ∈ V.tm, ∀ c ∈ n, c < 1114112
  ta : ∀ n ∈ V.ta, ∀ c ∈ n, c < 1114112
  lt : ∀ c ∈ V.lt, c < 1114112
theorem sd_word {n : Nat} (l : List Nat) (h : l.all (fun c => decide (c < 1114112)) = true) : Sd n (.str l) := Sd.str (by simpa using h)
theorem sd_let {n c : Nat} (h : c < 1114112) : Sd n (.str [c]) := Sd.str (by simpa using h)
theorem sd_dS {V : Voc} (hV : Vok V) : ∀ (m : Nat) (φ : Sy), hg φ ≤ m → wf V φ → Sd (2 * m + 1) (dS φ)
  | m, φ, hm, hw => by
    have ih : ∀ ψ ∈ partsS φ, Sd (2 * m) (dS ψ) ∧ Sd (2 * m - 1) (dS ψ) ∧ 1 ≤ m := fun ψ hψ => by
      have h3 := hg_parts ψ hψ
      have := sd_dS hV (m - 1) ψ (by omega) (wf_parts hw ψ hψ)
      exact ⟨this.mono (by omega), this.mono (by omega), by omega⟩
    cases φ with
    | mark n l =>
      refine Sd.tup fun d hd => ?_
      simp only [List.mem_cons, List.not_mem_nil, or_false] at hd
      rcases hd with rfl | rfl | rfl
      · exact sd_word _ (by decide)
      · exact Sd.str (hV.tm n hw.1)
      · exact sd_let (hV.lt l hw.2)
    | arrow n l m =>
      refine Sd.tup fun d hd => ?_
      simp only [List.mem_cons, List.not_mem_nil, or_false] at hd
      rcases hd with rfl | rfl | rfl | rfl
      · exact sd_word _ (by decide)
      · exact Sd.str (hV.ta n hw.1)
      · exact sd_let (hV.lt l hw.2.1)
      · exact sd_let (hV.lt m hw.2.2)
    | same l m =>
      refine Sd.tup fun d hd => ?_
      simp only [List.mem_cons, List.not_mem_nil, or_false] at hd
      rcases hd with rfl | rfl | rfl
      · exact sd_word _ (by decide)
      · exact sd_let (hV.lt l hw.1)
      · exact sd_let (hV.lt m hw.2)
    | neg ψ =>
      refine Sd.tup fun d hd => ?_
      simp only [List.mem_cons, List.not_mem_nil, or_false] at hd
      rcases hd with rfl | rfl
      · exact sd_word _ (by decide)
      · exact (ih ψ (by simp [partsS])).1
    | qu b c ψ =>
      refine Sd.tup fun d hd => ?_
      simp only [List.mem_cons, List.not_mem_nil, or_false] at hd
      rcases hd with rfl | rfl | rfl
      · exact sd_word _ (by cases b <;> decide)
      · exact sd_let (hV.lt c hw.1)
      · exact (ih ψ (by simp [partsS])).1
    | jn b l =>
      have h1 : 1 ≤ m := by simp only [hg] at hm; omega
      refine Sd.tup fun d hd => ?_
      simp only [List.mem_cons, List.not_mem_nil, or_false] at hd
      rcases hd with rfl | rfl
      · exact sd_word _ (by cases b <;> decide)
      · rw [dSL_map, show 2 * m = 2 * m - 1 + 1 by omega]
        refine Sd.tup fun d hd => ?_
        obtain ⟨ψ, hψ, rfl⟩ := List.mem_map.mp hd
        exact (ih ψ hψ).2.1
termination_by m φ => hg φ
decreasing_by omega
theorem c_show {V : Voc} (hV : Vok V) : ∀ (m : Nat) (φ : Sy), hg φ ≤ m → wf V φ → (sh φ).length ≤ 100000 → m ≤ 25 → ∀ k, m + 1 ≤ k → callN k .show_saying [dS φ] s = some (.str (sh φ), s)
  | m, φ, hm, hw, hl, h25, k, hk => by
    obtain ⟨j, rfl⟩ : ∃ j, k = j + 1 := ⟨k - 1, by omega⟩
    have ih : ∀ ψ ∈ partsS φ, (sh ψ).length ≤ 100000 → callN j .show_saying [dS ψ] s = some (.str (sh ψ), s) := fun ψ hψ hl => by
      have h3 := hg_parts ψ hψ
      exact c_show hV (m - 1) ψ (by omega) (wf_parts hw ψ hψ) hl (by omega) j (by omega)
    refine call_rt rfl ?_
    cases φ with
    | mark n l =>
      simp only [sh, List.length_append, List.length_singleton] at hl
      have h1 : n.length + 1 ≤ 16777216 := by omega
      have h2 : n.length + 1 + 1 ≤ 16777216 := by omega
      have h3 : n.length + 1 + 1 + 1 ≤ 16777216 := by omega
      simp [b_show_saying, dS, sh]
      simp (disch := omega) [if_pos]
    | arrow n l m =>
      simp only [sh, List.length_append, List.length_singleton] at hl
      simp [b_show_saying, dS, sh]
      simp (disch := omega) [if_pos]
    | same l m => simp [b_show_saying, dS, sh]
    | neg ψ =>
      simp only [sh, List.length_append, List.length_cons, List.length_nil] at hl
      have := ih ψ (by simp [partsS]) (by omega)
      simp [b_show_saying, dS, sh, this]
      simp (disch := omega) [if_pos]
    | qu b c ψ =>
      simp only [sh, List.length_append, List.length_cons, List.length_nil] at hl
      have := ih ψ (by simp [partsS]) (by omega)
      cases b <;> simp [b_show_saying, dS, sh, this, wQ] <;> simp (disch := omega) [if_pos]
    | jn b l =>
      cases l with
      | nil => cases b <;> simp [b_show_saying, dS, sh, dSL, wE]
      | cons φ r =>
        have hs : Sd (2 * m + 1) (.tup ((φ :: r).map dS)) := by
          have := sd_dS hV m (.jn b (φ :: r)) hm hw
          have h1 : 1 ≤ m := by simp only [hg] at hm; omega
          rw [show 2 * m + 1 = 2 * m - 1 + 1 + 1 by omega]
          exact Sd.mono (Sd.tup fun d hd => by
            obtain ⟨ψ, hψ, rfl⟩ := List.mem_map.mp hd
            have h3 := hg_parts (φ := .jn b (φ :: r)) ψ hψ
            exact (sd_dS hV (m - 1) ψ (by omega) (wf_parts hw ψ hψ)).mono (by omega)) (Nat.le_refl _)
        have he : eqD (.tup (dS φ :: r.map dS)) (.tup []) = some false := by
          obtain ⟨c, h1, h2⟩ := eq_sd hs (Sd.tup (n := 0) (l := []) (by simp)) (by omega) (by omega)
          cases c with
          | false => exact h1
          | true =>
            have := h2.mp rfl
            simp at this
        have hx : ∀ ψ ∈ φ :: r, callN j .show_saying [dS ψ] s = some (.str (sh ψ), s) := fun ψ hψ => by
          refine ih ψ hψ ?_
          have := joinL_mem ([32] ++ wJ b ++ [32]) ((φ :: r).map sh) (sh ψ) (List.mem_map.mpr ⟨ψ, hψ, rfl⟩)
          rw [sh, shL_map] at hl
          simp only [List.length_append] at hl this
          omega
        have hz := joinL_len ([32] ++ wJ b ++ [32]) ((φ :: r).map sh)
        have hb5 : ([32] ++ wJ b ++ [32] : List Nat).length ≤ 5 := by cases b <;> simp [wJ]
        rw [sh, shL_map] at hl
        simp only [List.length_append, List.length_singleton] at hl hz hb5
        have hstr : ((φ :: r).map fun ψ => D.str (sh ψ)) = ((φ :: r).map sh).map .str := by simp
        have hcomp : ∀ (z : List Nat), evE (callN j) (.comp false (.call .show_saying (.cons (.var 3) .nil)) (.one 3) (.val (.ix (.var 0) (.int 1))) (.bl true)) [.p (dS (.jn b (φ :: r))), .p (.str (wJ b)), .p (.str z), .un] s = some (.lst (((φ :: r).map sh).map .str), s) := fun z => by
          rw [← hstr]
          have hr : r.length ≤ 9999999 := by
            have := wf_len hw
            simp [partsS] at this
            omega
          exact ev_comp_m (e := dS) (l := φ :: r) (fun ψ => .str (sh ψ)) (by simp [dS, dSL_map]) (by simp) (by simp; omega) (fun ψ hψ => ⟨_, rfl, by simp [hx ψ hψ]⟩)
        generalize hJ : joinL ([32] ++ wJ b ++ [32]) ((φ :: r).map sh) = J at *
        have hj : joinD (.str ([32] ++ wJ b ++ [32])) (.lst (((φ :: r).map sh).map .str)) = some (.str J) := by
          simp only [joinD, asStrs_map, Option.bind_some]
          rw [if_pos (by simp only [List.length_append, List.length_singleton]; omega), hJ]
        show exSs (callN j) b_show_saying [.p (dS (.jn b (φ :: r))), .un, .un, .un] s = _
        have hix : ixD (dS (.jn b (φ :: r))) (.int 1) = some (.tup (dS φ :: r.map dS)) := by simp [dS, dSL_map]
        rw [sh, shL_map, hJ]
        unfold b_show_saying
        rw [exSs_nx (ρ' := [.p (dS (.jn b (φ :: r))), .p (.str (wJ b)), .un, .un]) (s' := s) (by simp [wJ])]
        have hl1 : 1 + J.length ≤ 16777216 := by omega
        have hl2 : J.length + 1 + 1 ≤ 16777216 := by omega
        have hl3 : J.length ≤ 16777215 := by omega
        cases b <;> simp [wJ] at hcomp hj ⊢ <;> simp [hix, he, hcomp, hj, hl3] <;> simp (disch := omega) [if_pos]
termination_by m φ => hg φ
decreasing_by omega
end
end Pk
end
section
-- PuRead
set_option linter.all false
set_option maxRecDepth 10000
/-! A saying's text read back, run. -/
namespace Pk
open PySem
def isLet (c : Nat) : Bool := decide (97 ≤ c ∧ c ≤ 122)
theorem mem_LET {c : Nat} : c ∈ [97, 98, 99, 100, 101, 102, 103, 104, 105, 106, 107, 108, 109, 110, 111, 112, 113, 114, 115, 116, 117, 118, 119, 120, 121, 122] ↔ isLet c = true := by
  unfold isLet
  simp only [List.mem_cons, List.not_mem_nil, or_false, decide_eq_true_eq]
  omega
/-- what stands behind does not go on with a letter -/
def stopP : List Nat → Prop
  | [] => True
  | c :: _ => isLet c = false
section
variable {s : Sh}
/-- text[a : a + n] -/
theorem cut_mid (p x q : List Nat) : cutL (p ++ x ++ q) (some (p.length : Int)) (some ((p.length : Int) + x.length)) = x := by
  have : ((p.length : Int) + x.length) = ((p.length + x.length : Nat) : Int) := by omega
  rw [this, cut_both]
  simp
theorem c_past (k : Nat) (p x q : List Nat) (hl : (p ++ x ++ q).length ≤ 100000) : callN (k + 1) .past [.str (p ++ x ++ q), .int p.length, .str x] s = some (.int (p.length + x.length : Nat), s) := by
  refine call_rt rfl ?_
  simp only [List.length_append] at hl
  have h1 : x.length ≤ 16777216 := by omega
  have h2 : (p ++ x ++ q).length ≤ 16777216 := by simp only [List.length_append]; omega
  have hc := cut_mid p x q
  generalize p ++ x ++ q = t at *
  simp [b_past, h1, h2, hc]
theorem c_is_letter (k : Nat) (c : Nat) (h : isLet c = true) : callN (k + 1) .is_letter [.str [c]] s = some (.bl true, s) := by
  refine call_rt rfl ?_
  have := mem_LET.mpr h
  simp only [List.mem_cons, List.not_mem_nil, or_false] at this
  simp [b_is_letter, this]
theorem c_letter_at (k : Nat) (p q : List Nat) (c : Nat) (h : isLet c = true) (hl : (p ++ [c] ++ q).length ≤ 100000) : callN (k + 2) .letter_at [.str (p ++ [c] ++ q), .int p.length] s = some (.str [c], s) := by
  refine call_rt rfl ?_
  have h2 : (p ++ [c] ++ q).length ≤ 16777216 := by omega
  have hc := cut_mid p [c] q
  have ha : L2.atI (p ++ [c] ++ q) (p.length : Int) = some c := by
    rw [atI_nat]
    simp
  generalize p ++ [c] ++ q = t at *
  simp at hc
  simp [b_letter_at, h2, hc, c_is_letter k c h, ha]
theorem while_w (cl : Cl) (t : List Nat) (ht : t.length ≤ 16777216) (r : List Nat) (hr : stopP r) : ∀ (w p : List Nat) (n : Nat), t = p ++ w ++ r → (∀ c ∈ w, isLet c = true) → w.length < n →
    whileL (fun ρ s => evE cl (.and2 (.cmp .lt (.var 1) (.b1 .len1 (.var 0))) (.cmp .isin (.ix (.var 0) (.var 1)) (.glo .LETTERS))) ρ s) (fun ρ s => exSs cl (.cons (.set 1 (.bin .add (.var 1) (.int 1))) .nil) ρ s) n [.p (.str t), .p (.int p.length)] s = some (.nx [.p (.str t), .p (.int (p.length + w.length : Nat))] s)
  | [], p, n + 1, e, hw, hn => by
    rw [whileL]
    cases r with
    | nil =>
      have : t.length = p.length := by rw [e]; simp
      have hp : p.length ≤ 16777216 := by omega
      simp [this, hp]
    | cons c r =>
      have hlt : (p.length : Int) < t.length := by rw [e]; simp; omega
      have ha : L2.atI t (p.length : Int) = some c := by rw [atI_nat, e]; simp
      have hc : isLet c = false := hr
      have hm : ¬ c ∈ [97, 98, 99, 100, 101, 102, 103, 104, 105, 106, 107, 108, 109, 110, 111, 112, 113, 114, 115, 116, 117, 118, 119, 120, 121, 122] := fun z => by
        rw [mem_LET] at z
        rw [hc] at z
        cases z
      simp only [List.mem_cons, List.not_mem_nil, or_false] at hm
      simp [ht, hlt, ha, hm]
  | a :: w, p, n + 1, e, hw, hn => by
    rw [whileL]
    have hlt : (p.length : Int) < t.length := by rw [e]; simp; omega
    have ha : L2.atI t (p.length : Int) = some a := by rw [atI_nat, e]; simp
    have hm := mem_LET.mpr (hw a (by simp))
    simp only [List.mem_cons, List.not_mem_nil, or_false] at hm
    have := while_w cl t ht r hr w (p ++ [a]) n (by rw [e]; simp) (fun c hc => hw c (by simp [hc])) (by simp at hn; omega)
    simp only [List.length_append, List.length_singleton] at this
    have e2 : (((p.length + 1 : Nat)) : Int) = (p.length : Int) + 1 := by omega
    have e3 : p.length + (a :: w).length = p.length + 1 + w.length := by simp; omega
    rw [e3]
    rw [e2] at this
    simp [ht, hlt, ha, hm]
    simpa using this
theorem c_word_end (k : Nat) (p w r : List Nat) (hr : stopP r) (hw : ∀ c ∈ w, isLet c = true) (hn : w.length < 1000) (ht : (p ++ w ++ r).length ≤ 100000) : callN (k + 1) .word_end [.str (p ++ w ++ r), .int p.length] s = some (.int (p.length + w.length : Nat), s) := by
  refine call_rt rfl ?_
  have := while_w (s := s) (callN k) (p ++ w ++ r) (by omega) r hr w p 1000 rfl hw hn
  simp only [body, b_word_end, startE, List.map_cons, List.map_nil, nsl, np, List.replicate, List.append_nil]
  rw [exSs_nx (ρ' := [.p (.str (p ++ w ++ r)), .p (.int (p.length + w.length : Nat))]) (s' := s) (by rw [exS.eq_def]; exact this)]
  simp
/-! ### with the place told apart -/
variable {t : List Nat} {a : Int}
theorem k_past (k : Nat) (p x q : List Nat) (e : t = p ++ x ++ q) (ha : a = p.length) (hl : t.length ≤ 100000) : callN (k + 1) .past [.str t, .int a, .str x] s = some (.int (a + x.length), s) := by
  subst e; subst ha
  have := c_past (s := s) k p x q hl
  rw [this]
  simp
theorem k_letter (k : Nat) (p q : List Nat) (c : Nat) (h : isLet c = true) (e : t = p ++ [c] ++ q) (ha : a = p.length) (hl : t.length ≤ 100000) : callN (k + 2) .letter_at [.str t, .int a] s = some (.str [c], s) := by
  subst e; subst ha
  exact c_letter_at k p q c h hl
theorem k_cut {b : Int} (p x q : List Nat) (e : t = p ++ x ++ q) (ha : a = p.length) (hb : b = a + x.length) : cutL t (some a) (some b) = x := by
  subst e; subst ha; subst hb
  exact cut_mid p x q
theorem k_cut0 {b : Int} (p : List Nat) (e : t = p) (ha : a = p.length) (hb : 0 ≤ b) : cutL t (some a) (some b) = [] := by
  subst e; subst ha
  obtain ⟨n, rfl⟩ := Int.eq_ofNat_of_zero_le hb
  have := cut_both t t.length n
  rw [this]
  simp
theorem c_read_mark (k : Nat) (p q : List Nat) (n : List Nat) (l : Nat) (h : isLet l = true) (e : t = p ++ [40, l, 41] ++ q) (ha : a = p.length) (hl : t.length ≤ 100000) :
    callN (k + 3) .read_named [.str t, .int a, .str n] s = some (.tup [.tup [.str [109, 97, 114, 107], .str n, .str [l]], .int (a + 3)], s) := by
  refine call_rt rfl ?_
  have h1 := k_past (s := s) (t := t) (a := a) (k + 1) p [40] ([l, 41] ++ q) (by simp [e]) ha hl
  have h2 := k_letter (s := s) (t := t) (a := a + 1) k (p ++ [40]) ([41] ++ q) l h (by simp [e]) (by simp [ha]) hl
  have h3 := k_cut (t := t) (a := a + 1 + 1) (b := a + 1 + 2) (p ++ [40, l]) [41] q (by simp [e]) (by simp [ha]; omega) (by simp; omega)
  have h4 := k_past (s := s) (t := t) (a := a + 1 + 1) (k + 1) (p ++ [40, l]) [41] q (by simp [e]) (by simp [ha]; omega) hl
  have hl2 : t.length ≤ 16777216 := by omega
  simp at h1 h2 h3 h4
  simp [b_read_named, h1, h2, h3, h4, hl2]
  omega
theorem c_read_arrow (k : Nat) (p q : List Nat) (n : List Nat) (l m : Nat) (h : isLet l = true) (h' : isLet m = true) (e : t = p ++ [40, l, 32, m, 41] ++ q) (ha : a = p.length) (hl : t.length ≤ 100000) :
    callN (k + 3) .read_named [.str t, .int a, .str n] s = some (.tup [.tup [.str [97, 114, 114, 111, 119], .str n, .str [l], .str [m]], .int (a + 5)], s) := by
  refine call_rt rfl ?_
  have h1 := k_past (s := s) (t := t) (a := a) (k + 1) p [40] ([l, 32, m, 41] ++ q) (by simp [e]) ha hl
  have h2 := k_letter (s := s) (t := t) (a := a + 1) k (p ++ [40]) ([32, m, 41] ++ q) l h (by simp [e]) (by simp [ha]) hl
  have h3 := k_cut (t := t) (a := a + 1 + 1) (b := a + 1 + 2) (p ++ [40, l]) [32] ([m, 41] ++ q) (by simp [e]) (by simp [ha]; omega) (by simp; omega)
  have h4 := k_letter (s := s) (t := t) (a := a + 1 + 2) k (p ++ [40, l, 32]) ([41] ++ q) m h' (by simp [e]) (by simp [ha]; omega) hl
  have h5 := k_past (s := s) (t := t) (a := a + 1 + 3) (k + 1) (p ++ [40, l, 32, m]) [41] q (by simp [e]) (by simp [ha]; omega) hl
  have hl2 : t.length ≤ 16777216 := by omega
  simp at h1 h2 h3 h4 h5
  simp [b_read_named, h1, h2, h3, h4, h5, hl2]
  omega
/-- read_many on some, every -/
theorem c_read_many (k : Nat) (p q : List Nat) (b : Bool) (c : Nat) (d : D) (r : Int) (h : isLet c = true) (e : t = p ++ [32, c, 32] ++ q) (ha : a = p.length) (hl : t.length ≤ 100000)
    (hr : callN (k + 2) .read_at [.str t, .int (a + 3)] s = some (.tup [d, .int r], s)) :
    callN (k + 3) .read_many [.str t, .int a, .str (wQ b)] s = some (.tup [.tup [.str (wQ b), .str [c], d], .int r], s) := by
  refine call_rt rfl ?_
  have h1 := k_past (s := s) (t := t) (a := a) (k + 1) p [32] ([c, 32] ++ q) (by simp [e]) ha hl
  have h2 := k_letter (s := s) (t := t) (a := a + 1) k (p ++ [32]) ([32] ++ q) c h (by simp [e]) (by simp [ha]) hl
  have h3 := k_past (s := s) (t := t) (a := a + 1 + 1) (k + 1) (p ++ [32, c]) [32] q (by simp [e]) (by simp [ha]; omega) hl
  have e3 : a + 1 + 1 + 1 = a + 3 := by omega
  simp at h1 h2 h3
  rw [e3] at h3
  cases b <;> simp [b_read_many, wQ, h1, h2, h3, hr]
/-- a name -/
def okName (n : List Nat) : Prop := 2 ≤ n.length ∧ n.length ≤ 8 ∧ (∀ c ∈ n, isLet c = true) ∧ n ∉ ([[97, 110, 100], [111, 114], [110, 111, 116], [115, 111, 109, 101], [101, 118, 101, 114, 121], [108, 101, 97, 115, 116], [116, 114, 117, 101], [102, 97, 108, 115, 101]] : List (List Nat))
theorem isLet_lt {c : Nat} (h : isLet c = true) : c < 1114112 := by
  unfold isLet at h
  simp at h
  omega
theorem in_words (n : List Nat) (h : ∀ c ∈ n, c < 1114112) : inD (.str n) (globD .WORDS) = some (decide (n ∈ ([[97, 110, 100], [111, 114], [110, 111, 116], [115, 111, 109, 101], [101, 118, 101, 114, 121], [108, 101, 97, 115, 116], [116, 114, 117, 101], [102, 97, 108, 115, 101]] : List (List Nat)))) := by
  obtain ⟨c, h1, h2⟩ := in_tup (n := 0) (m := 0) (x := .str n) (l := ([[97, 110, 100], [111, 114], [110, 111, 116], [115, 111, 109, 101], [101, 118, 101, 114, 121], [108, 101, 97, 115, 116], [116, 114, 117, 101], [102, 97, 108, 115, 101]] : List (List Nat)).map .str) (Sd.str h) (fun d hd => by
    obtain ⟨m, hm, rfl⟩ := List.mem_map.mp hd
    refine Sd.str ?_
    simp only [List.mem_cons, List.not_mem_nil, or_false] at hm
    rcases hm with rfl | rfl | rfl | rfl | rfl | rfl | rfl | rfl <;> simp) (by omega) (by omega)
  refine some_dec h1 ?_
  rw [h2, List.mem_map]
  constructor
  · rintro ⟨m, hm, e⟩
    injection e with e
    rw [← e]
    exact hm
  · exact fun h => ⟨n, h, rfl⟩
theorem c_is_name (k : Nat) (n : List Nat) (h : okName n) : callN (k + 1) .is_name [.str n] s = some (.bl true, s) := by
  obtain ⟨h1, h2, h3, h4⟩ := h
  refine call_rt rfl ?_
  have hw := in_words n (fun c hc => isLet_lt (h3 c hc))
  rw [decide_eq_false h4] at hw
  have g1 : n.length ≤ 16777216 := by omega
  have g2 : ¬ (n.length : Int) < 2 := by omega
  have g3 : ¬ (8 : Int) < n.length := by omega
  show exSs (callN k) b_is_name [.p (.str n), .un] s = _
  unfold b_is_name
  rw [exSs_nx (ρ' := [.p (.str n), .un]) (s' := s) (by simp at hw; simp [g1, g2, g3, hw])]
  simp
  rw [ev_comp_m (e := dC) (l := n) (fun c => .bl true) (by simp) (by simp) (by omega) (fun c hc => ⟨_, rfl, by
    have := mem_LET.mpr (h3 c hc)
    simp only [List.mem_cons, List.not_mem_nil, or_false] at this
    simp [this]⟩)]
  simp [asBls_m]
/-! ### read_at -/
structure Vn (V : Voc) : Prop where
  tm : ∀ n ∈ V.tm, okName n
  ta : ∀ n ∈ V.ta, okName n
  lt : ∀ c ∈ V.lt, isLet c = true
theorem sh_pos (φ : Sy) : 1 ≤ (sh φ).length := by
  cases φ with
  | jn b l => cases l with
    | nil => cases b <;> simp [sh, wE]
    | cons x r => simp [sh]
  | _ => simp [sh] <;> omega
/-- the word at hand -/
theorem k_word (k : Nat) (p w q : List Nat) (hq : stopP q) (hw : ∀ c ∈ w, isLet c = true) (hn : w.length < 1000) (e : t = p ++ w ++ q) (ha : a = p.length) (hl : t.length ≤ 100000) : callN (k + 1) .word_end [.str t, .int a] s = some (.int (a + w.length), s) := by
  subst e; subst ha
  have := c_word_end (s := s) k p w q hq hw hn hl
  rw [this]
  simp
theorem not_par {w q : List Nat} (hq : w ++ q = [] ∨ ∃ c r, w ++ q = c :: r ∧ c ≠ 40) (p : List Nat) (e : t = p ++ (w ++ q)) (ha : a = p.length) : cutL t (some a) (some (a + 1)) ≠ [40] := by
  rcases hq with hq | ⟨c, r, hq, hc⟩
  · rw [k_cut0 (t := t) (a := a) (b := a + 1) p (by rw [e, hq]; simp) ha (by omega)]
    simp
  · rw [k_cut (t := t) (a := a) (b := a + 1) p [c] r (by rw [e, hq]; simp) ha (by simp)]
    simpa using hc
def sepJ (b : Bool) : List Nat := [32] ++ wJ b ++ [32]
def tailJ (b : Bool) (r : List Sy) : List Nat := r.flatMap fun ψ => sepJ b ++ sh ψ
theorem joinL_tail (b : Bool) : ∀ (r : List Sy) (φ : Sy), joinL (sepJ b) ((φ :: r).map sh) = sh φ ++ tailJ b r
  | [], φ => by simp [joinL, tailJ]
  | ψ :: r, φ => by
    have := joinL_tail b r ψ
    simp only [List.map_cons, joinL] at this ⊢
    rw [this]
    simp [tailJ]
theorem c_is_name1 (k : Nat) (c : Nat) : callN (k + 1) .is_name [.str [c]] s = some (.bl false, s) := by
  refine call_rt rfl ?_
  simp [b_is_name]
theorem stop_tail (b : Bool) (r : List Sy) (q : List Nat) : stopP (tailJ b r ++ ([41] ++ q)) := by
  cases r with
  | nil => simp [tailJ, stopP, isLet]
  | cons ψ r => simp [tailJ, sepJ, stopP, isLet]
theorem while_j (k : Nat) (b : Bool) (q : List Nat) (f : Sl) (hl : t.length ≤ 100000) : ∀ (r : List Sy) (p : List Nat) (a : Int) (n : Nat) (acc : List D) (x : Sl), t = p ++ tailJ b r ++ ([41] ++ q) → a = p.length → r.length < n → acc.length + r.length ≤ 100 →
    (∀ ψ ∈ r, ∀ p' q', t = p' ++ sh ψ ++ q' → stopP q' → callN (k + 1) .read_at [.str t, .int p'.length] s = some (.tup [dS ψ, .int (p'.length + (sh ψ).length)], s)) →
    ∃ y, whileL (fun ρ s => evE (callN (k + 1)) (.cmp .ne (.sl (.var 0) (.ok (.var 1)) (.ok (.bin .add (.var 1) (.int 1)))) (.str [41])) ρ s) (fun ρ s => exSs (callN (k + 1)) (.cons (.setT [5, 1] (.call .read_at (.cons (.var 0) (.cons (.call .past (.cons (.var 0) (.cons (.var 1) (.cons (.bin .add (.bin .add (.str [32]) (.var 2)) (.str [32])) .nil)))) .nil)))) (.cons (.app 3 (.var 5)) .nil)) ρ s) n
      [.p (.str t), .p (.int a), .p (.str (wJ b)), .o (.lst acc), f, x] s = some (.nx [.p (.str t), .p (.int (a + (tailJ b r).length)), .p (.str (wJ b)), .o (.lst (acc ++ r.map dS)), f, y] s)
  | [], p, a, n + 1, acc, x, e, ha, hn, hacc, ih => by
    refine ⟨x, ?_⟩
    have h1 := k_cut (t := t) (a := a) (b := a + 1) p [41] q (by simpa [tailJ] using e) ha (by simp)
    have hl2 : t.length ≤ 16777216 := by omega
    rw [whileL]
    simp [h1, hl2, tailJ]
  | ψ :: r, p, a, n + 1, acc, x, e, ha, hn, hacc, ih => by
    have hl2 : t.length ≤ 16777216 := by omega
    have e0 : tailJ b (ψ :: r) = sepJ b ++ sh ψ ++ tailJ b r := by simp [tailJ]
    have h1 := k_cut (t := t) (a := a) (b := a + 1) p [32] (wJ b ++ [32] ++ sh ψ ++ tailJ b r ++ ([41] ++ q)) (by rw [e, e0]; simp [sepJ]) ha (by simp)
    have h2 := k_past (s := s) (t := t) (a := a) k p (sepJ b) (sh ψ ++ tailJ b r ++ ([41] ++ q)) (by rw [e, e0]; simp) ha hl
    have h3 := ih ψ (by simp) (p ++ sepJ b) (tailJ b r ++ ([41] ++ q)) (by rw [e, e0]; simp) (stop_tail b r q)
    obtain ⟨y, h4⟩ := while_j k b q f hl r (p ++ sepJ b ++ sh ψ) (a + (sepJ b).length + (sh ψ).length) n (acc ++ [dS ψ]) (.p (dS ψ)) (by rw [e, e0]; simp) (by simp [ha]; omega) (by simp at hn; omega) (by simp at hacc ⊢; omega) (fun χ hχ => ih χ (by simp [hχ]))
    refine ⟨y, ?_⟩
    have e5 : (((p ++ sepJ b).length : Nat) : Int) = a + (sepJ b).length := by simp [ha]
    rw [e5] at h3
    have hacc2 : acc.length < 16777216 := by simp at hacc; omega
    have e6 : a + ((tailJ b (ψ :: r)).length : Nat) = a + (sepJ b).length + (sh ψ).length + (tailJ b r).length := by rw [e0]; simp; omega
    rw [e6]
    have e7 : acc ++ (ψ :: r).map dS = acc ++ [dS ψ] ++ r.map dS := by simp
    rw [e7, ← h4]
    rw [whileL]
    have hsep : sepJ b = [32] ++ wJ b ++ [32] := rfl
    clear h4 e7 e6 e0 ih e5
    cases b <;> simp [sepJ, wJ] at h1 h2 h3 ⊢ <;> simp [h1, h2, h3, hl2, hacc2]
theorem c_read_joined (k : Nat) (b : Bool) (p q : List Nat) (φ : Sy) (r : List Sy) (hr0 : r ≠ []) (hr : r.length ≤ 6) (hl : t.length ≤ 100000) (e : t = p ++ (sh φ ++ tailJ b r) ++ ([41] ++ q)) (ha : a = p.length)
    (ih : ∀ ψ ∈ φ :: r, ∀ p' q', t = p' ++ sh ψ ++ q' → stopP q' → callN (k + 1) .read_at [.str t, .int p'.length] s = some (.tup [dS ψ, .int (p'.length + (sh ψ).length)], s)) :
    callN (k + 2) .read_joined [.str t, .int a] s = some (.tup [dS (.jn b (φ :: r)), .int (a + (sh φ ++ tailJ b r).length + 1)], s) := by
  refine call_rt rfl ?_
  have hl2 : t.length ≤ 16777216 := by omega
  have h1 := ih φ (by simp) p (tailJ b r ++ ([41] ++ q)) (by rw [e]; simp) (stop_tail b r q)
  rw [← ha] at h1
  obtain ⟨y, h2⟩ := while_j (s := s) k b q (.p (dS φ)) hl r (p ++ sh φ) (a + (sh φ).length) 1000 [dS φ] .un (by rw [e]; simp) (by simp [ha]) (by omega) (by simp; omega) (fun ψ hψ => ih ψ (by simp [hψ]))
  obtain ⟨ψ, r, rfl⟩ : ∃ ψ r', r = ψ :: r' := by
    cases r with
    | nil => exact absurd rfl hr0
    | cons ψ r' => exact ⟨ψ, r', rfl⟩
  have e0 : tailJ b (ψ :: r) = sepJ b ++ sh ψ ++ tailJ b r := by simp [tailJ]
  -- five signs behind the first part
  have h3 : (cutL t (some (a + (sh φ).length)) (some (a + (sh φ).length + 5)) = [32, 97, 110, 100, 32]) ↔ b = true := by
    cases b with
    | true =>
      have := k_cut (t := t) (a := a + (sh φ).length) (b := a + (sh φ).length + 5) (p ++ sh φ) [32, 97, 110, 100, 32] (sh ψ ++ tailJ true r ++ ([41] ++ q)) (by rw [e, e0]; simp [sepJ, wJ]) (by simp [ha]) (by simp)
      simp [this]
    | false =>
      have h5 := sh_pos ψ
      obtain ⟨c, z, hc⟩ : ∃ c z, sh ψ = c :: z := by
        cases h : sh ψ with
        | nil => rw [h] at h5; simp at h5
        | cons c z => exact ⟨c, z, rfl⟩
      have := k_cut (t := t) (a := a + (sh φ).length) (b := a + (sh φ).length + 5) (p ++ sh φ) [32, 111, 114, 32, c] (z ++ tailJ false r ++ ([41] ++ q)) (by rw [e, e0, hc]; simp [sepJ, wJ]) (by simp [ha]) (by simp)
      simp [this]
  show exSs (callN (k + 1)) b_read_joined [.p (.str t), .p (.int a), .un, .un, .un, .un] s = _
  unfold b_read_joined
  rw [exSs_nx (ρ' := [.p (.str t), .p (.int (a + (sh φ).length)), .un, .un, .p (dS φ), .un]) (s' := s) (by simp [h1])]
  rw [exSs_nx (ρ' := [.p (.str t), .p (.int (a + (sh φ).length)), .p (.str [111, 114]), .un, .p (dS φ), .un]) (s' := s) (by simp)]
  rw [exSs_nx (ρ' := [.p (.str t), .p (.int (a + (sh φ).length)), .p (.str (wJ b)), .un, .p (dS φ), .un]) (s' := s) (by
    cases b <;> simp at h3 <;> simp [hl2, h3, wJ])]
  rw [exSs_nx (ρ' := [.p (.str t), .p (.int (a + (sh φ).length)), .p (.str (wJ b)), .o (.lst [dS φ]), .p (dS φ), .un]) (s' := s) (by simp)]
  rw [exSs_nx (by rw [exS.eq_def]; exact h2)]
  have e9 : a + ((sh φ).length : Int) + ((tailJ b (ψ :: r)).length : Nat) + 1 = a + (sh φ ++ tailJ b (ψ :: r)).length + 1 := by simp; omega
  rw [← e9]
  have h10 : ¬ ((r.length : Int) + 1 + 1 < 2) := by omega
  simp [dS, dSL_map, h10, wJ]
end
end Pk
end
section
-- PuRead2
set_option linter.all false
set_option maxRecDepth 10000
/-! read_at, read_saying, run. -/
namespace Pk
open PySem
section
variable {s : Sh} {t : List Nat} {a : Int}
def tl3 : MSs → MSs
  | .cons _ (.cons _ (.cons _ r)) => r
  | r => r
theorem rd_word (j : Nat) (p w q : List Nat) (hq : stopP q) (hw : ∀ c ∈ w, isLet c = true) (hn : w.length < 1000) (h0 : w ≠ []) (e : t = p ++ w ++ q) (ha : a = p.length) (hl : t.length ≤ 100000) :
    exSs (callN (j + 1)) b_read_at [.p (.str t), .p (.int a), .un, .un, .un, .un] s = exSs (callN (j + 1)) (tl3 b_read_at) [.p (.str t), .p (.int a), .p (.int (a + w.length)), .p (.str w), .un, .un] s := by
  have hl2 : t.length ≤ 16777216 := by omega
  have h1 := not_par (t := t) (a := a) (w := w) (q := q) (.inr (by
    cases w with
    | nil => exact absurd rfl h0
    | cons c r =>
      refine ⟨c, r ++ q, rfl, fun z => ?_⟩
      have := hw c (by simp)
      rw [z] at this
      exact absurd this (by decide))) p (by rw [e]; simp) ha
  have h2 := k_word (s := s) j p w q hq hw hn e ha hl
  have h3 := k_cut (t := t) (a := a) (b := a + w.length) p w q e ha rfl
  simp [b_read_at, tl3, hl2, h1, h2, h3]
theorem c_read_at {V : Voc} (hV : Vn V) (hl : t.length ≤ 100000) : ∀ (m : Nat) (φ : Sy), hg φ ≤ m → wf V φ → ∀ k, 2 * m + 6 ≤ k → ∀ p q, t = p ++ sh φ ++ q → stopP q → callN k .read_at [.str t, .int p.length] s = some (.tup [dS φ, .int (p.length + (sh φ).length)], s)
  | m, φ, hm, hw, k, hk, p, q, e, hq => by
    obtain ⟨j, rfl⟩ : ∃ j, k = j + 6 := ⟨k - 6, by omega⟩
    have hl2 : t.length ≤ 16777216 := by omega
    refine call_rt rfl ?_
    show exSs (callN (j + 5)) b_read_at [.p (.str t), .p (.int p.length), .un, .un, .un, .un] s = _
    cases φ with
    | mark n l =>
      obtain ⟨hn, hlt⟩ := hw
      have ok := hV.tm n hn
      have okl := hV.lt l hlt
      have e' : t = p ++ n ++ ([40, l, 41] ++ q) := by rw [e]; simp [sh]
      rw [rd_word (j + 4) p n ([40, l, 41] ++ q) (by simp [stopP, isLet]) ok.2.2.1 (by have := ok.2.1; omega) (by intro z; have := ok.1; rw [z] at this; simp at this) e' rfl hl]
      have h1 := c_is_name (s := s) (j + 4) n ok
      have h2 := c_read_mark (s := s) (t := t) (a := (p.length : Int) + n.length) (j + 2) (p ++ n) q n l okl (by rw [e]; simp [sh]) (by simp) hl
      have h4 := ok.2.2.2
      simp only [List.mem_cons, List.not_mem_nil, or_false, not_or] at h4
      simp [b_read_at, tl3, h1, h2, h4, dS, sh]
      omega
    | arrow n l m' =>
      obtain ⟨hn, hlt, hlt'⟩ := hw
      have ok := hV.ta n hn
      have okl := hV.lt l hlt
      have okm := hV.lt m' hlt'
      have e' : t = p ++ n ++ ([40, l, 32, m', 41] ++ q) := by rw [e]; simp [sh]
      rw [rd_word (j + 4) p n ([40, l, 32, m', 41] ++ q) (by simp [stopP, isLet]) ok.2.2.1 (by have := ok.2.1; omega) (by intro z; have := ok.1; rw [z] at this; simp at this) e' rfl hl]
      have h1 := c_is_name (s := s) (j + 4) n ok
      have h2 := c_read_arrow (s := s) (t := t) (a := (p.length : Int) + n.length) (j + 2) (p ++ n) q n l m' okl okm (by rw [e]; simp [sh]) (by simp) hl
      have h4 := ok.2.2.2
      simp only [List.mem_cons, List.not_mem_nil, or_false, not_or] at h4
      simp [b_read_at, tl3, h1, h2, h4, dS, sh]
      omega
    | same l m' =>
      obtain ⟨hlt, hlt'⟩ := hw
      have okl := hV.lt l hlt
      have okm := hV.lt m' hlt'
      have e' : t = p ++ [l] ++ ([32, 61, 32, m'] ++ q) := by rw [e]; simp [sh]
      rw [rd_word (j + 4) p [l] ([32, 61, 32, m'] ++ q) (by simp [stopP, isLet]) (by simpa using okl) (by simp) (by simp) e' rfl hl]
      have h1 := c_is_name1 (s := s) (j + 4) l
      have h2 := k_letter (s := s) (t := t) (a := (p.length : Int)) (j + 3) p ([32, 61, 32, m'] ++ q) l okl (by rw [e]; simp [sh]) rfl hl
      have h3 := k_past (s := s) (t := t) (a := (p.length : Int) + 1) (j + 4) (p ++ [l]) [32, 61, 32] ([m'] ++ q) (by rw [e]; simp [sh]) (by simp) hl
      have h4 := k_letter (s := s) (t := t) (a := (p.length : Int) + 1 + 3) (j + 3) (p ++ [l, 32, 61, 32]) q m' okm (by rw [e]; simp [sh]) (by simp; omega) hl
      simp at h3
      simp [b_read_at, tl3, h1, h2, h3, h4, dS, sh]
      omega
    | neg ψ =>
      have hm1 : hg ψ + 1 ≤ m := by simpa [hg] using hm
      have e' : t = p ++ [110, 111, 116] ++ ([32] ++ sh ψ ++ q) := by rw [e]; simp [sh]
      rw [rd_word (j + 4) p [110, 111, 116] ([32] ++ sh ψ ++ q) (by simp [stopP, isLet]) (by decide) (by simp) (by simp) e' rfl hl]
      have h1 := k_past (s := s) (t := t) (a := (p.length : Int) + 3) (j + 4) (p ++ [110, 111, 116]) [32] (sh ψ ++ q) (by rw [e]; simp [sh]) (by simp) hl
      have h2 := c_read_at hV hl (m - 1) ψ (by omega) hw (j + 5) (by omega) (p ++ [110, 111, 116, 32]) q (by rw [e]; simp [sh]) hq
      have e3 : (((p ++ [110, 111, 116, 32]).length : Nat) : Int) = (p.length : Int) + 3 + 1 := by simp; omega
      rw [e3] at h2
      simp at h1
      simp [b_read_at, tl3, h1, h2, dS, sh]
      omega
    | qu b c ψ =>
      obtain ⟨hc, hw⟩ := hw
      have okc := hV.lt c hc
      have hm1 : hg ψ + 1 ≤ m := by simpa [hg] using hm
      have e' : t = p ++ wQ b ++ ([32, c, 32] ++ sh ψ ++ q) := by rw [e]; simp [sh]
      rw [rd_word (j + 4) p (wQ b) ([32, c, 32] ++ sh ψ ++ q) (by simp [stopP, isLet]) (by cases b <;> decide) (by cases b <;> simp [wQ]) (by cases b <;> simp [wQ]) e' rfl hl]
      have h2 := c_read_at hV hl (m - 1) ψ (by omega) hw (j + 4) (by omega) (p ++ wQ b ++ [32, c, 32]) q (by rw [e]; simp [sh]) hq
      have e3 : (((p ++ wQ b ++ [32, c, 32]).length : Nat) : Int) = (p.length : Int) + (wQ b).length + 3 := by simp; omega
      rw [e3] at h2
      have h1 := c_read_many (s := s) (t := t) (a := (p.length : Int) + (wQ b).length) (j + 2) (p ++ wQ b) (sh ψ ++ q) b c (dS ψ) _ okc (by rw [e]; simp [sh]) (by simp) hl h2
      cases b <;> simp [wQ] at h1 <;> simp [b_read_at, tl3, h1, dS, sh, wQ] <;> omega
    | jn b l =>
      obtain ⟨h7, h1, hw⟩ := hw
      cases l with
      | nil =>
        have e' : t = p ++ wE b ++ q := by rw [e]; simp [sh]
        rw [rd_word (j + 4) p (wE b) q hq (by cases b <;> decide) (by cases b <;> simp [wE]) (by cases b <;> simp [wE]) e' rfl hl]
        cases b <;> simp [b_read_at, tl3, dS, sh, wE, dSL]
      | cons φ r =>
        have hg1 : ∀ ψ ∈ φ :: r, hg ψ + 1 ≤ m := fun ψ hψ => by
          have := hgL_le ψ hψ
          simp only [hg] at hm
          omega
        have es : sh (.jn b (φ :: r)) = [40] ++ (sh φ ++ tailJ b r) ++ [41] := by
          rw [sh, shL_map]
          have := joinL_tail b r φ
          unfold sepJ at this
          rw [this]
        have h2 := c_read_joined (s := s) (t := t) (a := (p.length : Int) + 1) (j + 3) b (p ++ [40]) q φ r (by rintro rfl; simp at h1) (by simp at h7; omega) hl (by rw [e, es]; simp) (by simp) (fun ψ hψ p' q' e2 hq2 => by
          have := hg1 ψ hψ
          exact c_read_at hV hl (m - 1) ψ (by omega) (wfL_mem.mp hw ψ hψ) (j + 4) (by omega) p' q' e2 hq2)
        have h3 := k_cut (t := t) (a := (p.length : Int)) (b := (p.length : Int) + 1) p [40] ((sh φ ++ tailJ b r) ++ [41] ++ q) (by rw [e, es]; simp) rfl (by simp)
        rw [es]
        simp at h2
        simp [b_read_at, hl2, h3, h2]
        omega
termination_by m φ => m
decreasing_by all_goals omega
theorem c_read_saying {V : Voc} (hV : Vn V) (φ : Sy) (hw : wf V φ) (hl : (sh φ).length ≤ 100000) (k : Nat) (hk : 2 * hg φ + 7 ≤ k) : callN k .read_saying [.str (sh φ)] s = some (dS φ, s) := by
  obtain ⟨j, rfl⟩ : ∃ j, k = j + 1 := ⟨k - 1, by omega⟩
  refine call_rt rfl ?_
  have h := c_read_at (s := s) (t := sh φ) hV hl (hg φ) φ (Nat.le_refl _) hw j (by omega) [] [] (by simp) trivial
  have hl2 : (sh φ).length ≤ 16777216 := by omega
  simp at h
  simp [b_read_saying, h, hl2]
end
end Pk
end
section
-- PuSplit
set_option linter.all false
set_option maxRecDepth 10000
/-! x.split(y): the one way to part a text. -/
namespace Pk
open PySem PySem.StrLaws Builtin Builtin.Str
theorem part_noinf (x y : Str) (a b : Nat) (hb : b ≤ x.length) (hy : 1 ≤ y.length) (hn : ∀ k, a ≤ k → k < b → ¬ At x y x.length k) : ¬ y.cps.toList <:+: (strSub x a b).cps.toList := by
  rintro ⟨u, v, e⟩
  rw [strSub_toList] at e
  have hlen : y.length = y.cps.toList.length := by simp [Str.length]
  have hxl : x.length = x.cps.toList.length := by simp [Str.length]
  have hl := congrArg List.length e
  simp only [List.length_append, List.length_take, List.length_drop] at hl
  refine hn (a + u.length) (by omega) (by omega) ⟨by omega, ?_⟩
  unfold subAt
  rw [beq_iff_eq]
  apply Array.toList_inj.mp
  rw [Array.toList_extract, List.extract_eq_take_drop]
  have h1 : x.cps.toList.drop a = u ++ y.cps.toList ++ v ++ (x.cps.toList.drop a).drop (b - a) := by
    rw [e, List.take_append_drop]
  rw [← List.drop_drop, h1]
  simp [hlen]
theorem parts_noinf (x y : Str) (hy : 1 ≤ y.length) : ∀ (cuts : List Nat) (a f : Nat), ChainG x y x.length a cuts f → (∀ k, f ≤ k → ¬ At x y x.length k) → ∀ p ∈ partsFrom x y.length a cuts, ¬ y.cps.toList <:+: p.cps.toList
  | [], a, f, h, hn, p, hp => by
    have e : f = a := h
    subst e
    rw [List.mem_singleton.mp hp]
    exact part_noinf x y f x.length (Nat.le_refl _) hy fun k h1 _ => hn k h1
  | d :: r, a, f, h, hn, p, hp => by
    rcases List.mem_cons.mp hp with rfl | hp'
    · exact part_noinf x y a d (by have := h.2.1.1; omega) hy h.2.2.1
    · exact parts_noinf x y hy r _ f h.2.2.2 hn p hp'
theorem split_noinf (x y : Str) (hy : 1 ≤ y.length) (hk : y.cps.all (· < 256) = true) : ∀ p ∈ Txt.split x y, ¬ y.cps.toList <:+: p.cps.toList := by
  obtain ⟨f, hG, hn⟩ := occ_tight x y hy
  unfold Txt.split
  split
  · rename_i hc
    intro p hp
    rw [List.mem_singleton.mp hp]
    rw [Bool.or_eq_true, decide_eq_true_eq, decide_eq_true_eq] at hc
    rcases hc with h | h
    · intro z
      have := z.length_le
      simp only [Array.length_toList] at this
      unfold Str.length at h
      omega
    · unfold Builtin.Str.strKind at h
      rw [if_pos hk] at h
      split at h
      · omega
      · split at h <;> omega
  · split
    · rename_i he
      intro p hp
      rw [List.mem_singleton.mp hp]
      have e0 : occurrences x y 0 x.length (x.length + 1) = [] := List.isEmpty_iff.mp he
      rw [e0] at hG
      have ef : f = 0 := hG
      subst ef
      have := part_noinf x y 0 x.length (Nat.le_refl _) hy fun k h1 _ => hn k h1
      rwa [sub_whole] at this
    · rw [partsBetween_eq]
      exact parts_noinf x y hy _ 0 f hG hn
theorem split_ne (x y : Str) : Txt.split x y ≠ [] := by
  unfold Txt.split
  split
  · simp
  · split
    · simp
    · rw [partsBetween_eq]
      obtain ⟨p, r, e⟩ := partsFrom_ne x y.length 0 (occurrences x y 0 x.length (x.length + 1))
      rw [e]
      simp
theorem join_toList (y : Str) : ∀ l : List Str, (Str.join y l).cps.toList = joinL y.cps.toList (l.map strL)
  | [] => rfl
  | [x] => rfl
  | x :: z :: r => by
    have := join_toList y (z :: r)
    show (x ++ y ++ Str.join y (z :: r)).cps.toList = _
    have e : ∀ a b : Str, (a ++ b).cps = a.cps ++ b.cps := fun a b => rfl
    rw [e, e, Array.toList_append, Array.toList_append, this]
    simp [joinL, strL]
/-- the split that there is -/
def spl (x y : List Nat) : List (List Nat) := (Txt.split ⟨x.toArray⟩ ⟨y.toArray⟩).map strL
theorem spl_join (x y : List Nat) : joinL y (spl x y) = x := by
  have := congrArg (fun z : Str => z.cps.toList) (join_split ⟨x.toArray⟩ ⟨y.toArray⟩)
  simp only [join_toList] at this
  exact this
theorem spl_ne (x y : List Nat) : spl x y ≠ [] := by
  unfold spl
  intro h
  exact split_ne _ _ (List.map_eq_nil_iff.mp h)
theorem spl_no (x y : List Nat) (hy : y ≠ []) (hk : ∀ c ∈ y, c < 256) : ∀ p ∈ spl x y, ¬ y <:+: p := by
  intro p hp
  obtain ⟨z, hz, rfl⟩ := List.mem_map.mp hp
  exact split_noinf ⟨x.toArray⟩ ⟨y.toArray⟩ (by
    show 1 ≤ y.toArray.size
    cases y with
    | nil => exact absurd rfl hy
    | cons a r => simp) (by simpa using hk) z hz
/-- one sign, perhaps one more behind it -/
theorem join_uniq {c : Nat} {y : List Nat} (hy : y = [] ∨ ∃ d, y = [d] ∧ d ≠ c) : ∀ (L M : List (List Nat)), L ≠ [] → M ≠ [] → (∀ a ∈ L, c ∉ a) → (∀ b ∈ M, ¬ (c :: y) <:+: b) → joinL (c :: y) L = joinL (c :: y) M → L = M
  | [], _, h, _, _, _, _ => absurd rfl h
  | _, [], _, h, _, _, _ => absurd rfl h
  | [a], [b], _, _, _, _, e => by simpa [joinL] using e
  | [a], b :: b' :: r, _, _, h, _, e => by
    have := h a (by simp)
    simp only [joinL] at e
    rw [e] at this
    simp at this
  | a :: a' :: r, [b], _, _, _, h, e => by
    have := h b (by simp)
    simp only [joinL] at e
    refine absurd ⟨a, joinL (c :: y) (a' :: r), ?_⟩ this
    rw [← e]
  | a :: a' :: r, b :: b' :: r', _, _, h1, h2, e => by
    simp only [joinL] at e
    have hab : a = b := by
      generalize joinL (c :: y) (a' :: r) = R at e
      generalize joinL (c :: y) (b' :: r') = R' at e
      have ha := h1 a (by simp)
      have hb := h2 b (by simp)
      rw [List.append_assoc, List.append_assoc] at e
      rcases List.append_eq_append_iff.mp e with ⟨z, e1, e2⟩ | ⟨z, e1, e2⟩
      · -- b = a ++ z
        cases z with
        | nil => simpa using e1.symm
        | cons d z =>
          exfalso
          simp only [List.cons_append, List.cons.injEq] at e2
          obtain ⟨rfl, e2⟩ := e2
          rcases hy with rfl | ⟨d, rfl, hd⟩
          · exact hb ⟨a, z, by rw [e1]; simp⟩
          · cases z with
            | nil =>
              simp at e2
              exact hd e2.1
            | cons f z =>
              simp at e2
              exact hb ⟨a, z, by rw [e1, e2.1]; simp⟩
      · -- a = b ++ z
        cases z with
        | nil => simpa using e1
        | cons d z =>
          exfalso
          simp only [List.cons_append, List.cons.injEq] at e2
          obtain ⟨rfl, e2⟩ := e2
          exact ha (by rw [e1]; simp)
    subst hab
    have e3 : joinL (c :: y) (a' :: r) = joinL (c :: y) (b' :: r') := by
      rw [List.append_assoc, List.append_assoc] at e
      have := List.append_cancel_left e
      exact List.append_cancel_left this
    rw [join_uniq hy (a' :: r) (b' :: r') (by simp) (by simp) (fun x hx => h1 x (by simp [hx])) (fun x hx => h2 x (by simp [hx])) e3]
theorem spl_blank (L : List (List Nat)) (h0 : L ≠ []) (h : ∀ a ∈ L, 32 ∉ a) : spl (joinL [32] L) [32] = L :=
  (join_uniq (c := 32) (y := []) (.inl rfl) L _ h0 (spl_ne _ _) h (spl_no _ _ (by simp) (by simp)) (spl_join _ _).symm).symm
theorem spl_semi (L : List (List Nat)) (h0 : L ≠ []) (h : ∀ a ∈ L, 59 ∉ a) : spl (joinL [59, 32] L) [59, 32] = L :=
  (join_uniq (c := 59) (y := [32]) (.inr ⟨32, rfl, by decide⟩) L _ h0 (spl_ne _ _) h (spl_no _ _ (by simp) (by simp)) (spl_join _ _).symm).symm
theorem spl_free (x : List Nat) : ∀ p ∈ spl x [32], 32 ∉ p := fun p hp h => spl_no x [32] (by simp) (by simp) p hp (by
  obtain ⟨u, v, e⟩ := List.append_of_mem h
  exact ⟨u, v, by rw [e]; simp⟩)
theorem joinL_cons (z a : List Nat) (L : List (List Nat)) (h : L ≠ []) : joinL z (a :: L) = a ++ z ++ joinL z L := by
  cases L with
  | nil => exact absurd rfl h
  | cons b r => rfl
/-- row.split(" ") of a row "w text" -/
theorem spl_row (w x : List Nat) (hw : 32 ∉ w) : spl (w ++ [32] ++ x) [32] = w :: spl x [32] := by
  have e : w ++ [32] ++ x = joinL [32] (w :: spl x [32]) := by
    rw [joinL_cons _ _ _ (spl_ne _ _), spl_join]
  rw [e]
  refine spl_blank _ (by simp) fun a ha => ?_
  rcases List.mem_cons.mp ha with rfl | ha
  · exact hw
  · exact spl_free x a ha
theorem spl_one (w : List Nat) (hw : 32 ∉ w) : spl w [32] = [w] := spl_blank [w] (by simp) (by simpa using hw)
theorem split_spl (x y : List Nat) (h : y ≠ []) (hl : x.length ≤ 100000) : splitD (.str x) (.str y) = some (.lst ((spl x y).map .str)) := by
  unfold spl
  show (if y ≠ [] ∧ x.length + 2 ≤ sizeLine then some _ else none) = _
  rw [if_pos ⟨h, by rw [sl_eq]; omega⟩]
  simp
theorem spl_size (x : List Nat) (n : Nat) (hn : n ≤ 4) : joinSize n (spl x [32]) ≤ 5 * x.length + 5 := by
  have h := spl_join x [32]
  have h0 := spl_ne x [32]
  generalize spl x [32] = L at *
  rw [← h]
  clear h
  induction L with
  | nil => exact absurd rfl h0
  | cons a r ih =>
    cases r with
    | nil =>
      simp only [joinSize, joinL]
      omega
    | cons b r =>
      have := ih (by simp)
      simp only [joinSize, joinL, List.length_append, List.length_singleton] at this ⊢
      omega
end Pk
end
section
-- PuWt
set_option linter.all false
set_option maxRecDepth 10000
/-! A world's text, and read back. -/
namespace Pk
open PySem
structure GdW (w : W) : Prop where
  n1 : 1 ≤ w.n
  n8 : w.n ≤ 8
  lm : w.ms.length ≤ 3
  la : w.as.length ≤ 3
  nm : ∀ m ∈ w.ms, okName m.1
  na : ∀ m ∈ w.as, okName m.1
  rm : (w.ms.map Prod.fst).Pairwise fun a b => ltS a b = true
  ra : (w.as.map Prod.fst).Pairwise fun a b => ltS a b = true
  pm : ∀ m ∈ w.ms, m.2.Pairwise fun a b => ltI a b = true
  pa : ∀ m ∈ w.as, Rise m.2
  im : ∀ m ∈ w.ms, ∀ x ∈ m.2, 0 ≤ x ∧ x < w.n
  ia : ∀ m ∈ w.as, ∀ p ∈ m.2, (0 ≤ p.1 ∧ p.1 < w.n) ∧ 0 ≤ p.2 ∧ p.2 < w.n
theorem GdW.inn {w : W} (h : GdW w) : Inn w := ⟨h.n1, h.im, h.ia⟩
theorem GdW.pts {w : W} (h : GdW w) : ∀ m ∈ w.ms, m.2.length ≤ 8 := fun m hm => by
  refine few 8 m.2 ?_ fun x hx => ?_
  · exact (h.pm m hm).imp fun {a b} l e => by
      subst e
      simp [ltI] at l
  · have := h.im m hm x hx
    have := h.n8
    omega
theorem GdW.prs {w : W} (h : GdW w) : ∀ m ∈ w.as, m.2.length ≤ 64 := fun m hm => by
  have := few 64 (m.2.map fun p => p.1 * 8 + p.2) (by
    unfold List.Nodup
    rw [List.pairwise_map]
    refine List.Pairwise.imp_of_mem (fun {p q} hp hq l e => ?_) (h.pa m hm)
    have h1 := h.ia m hm p hp
    have h2 := h.ia m hm q hq
    have := h.n8
    rw [ltP_iff] at l
    omega) fun x hx => by
    obtain ⟨p, hp, rfl⟩ := List.mem_map.mp hx
    have h1 := h.ia m hm p hp
    have := h.n8
    constructor
    · omega
    · show _ < ((64 : Nat) : Int)
      omega
  simpa using this
def dig (x : Int) : List Nat := [48 + x.toNat]
def ptx (x : Int) : List Nat := [32] ++ dig x
def prx (p : Int × Int) : List Nat := [32] ++ dig p.1 ++ [45] ++ dig p.2
def mtx (m : List Nat × List Int) : List Nat := m.1 ++ [58] ++ joinL [] (m.2.map ptx)
def atx (m : List Nat × PS) : List Nat := m.1 ++ [62] ++ joinL [] (m.2.map prx)
theorem prx_le {l : PS} : ∀ x ∈ l.map prx, x.length ≤ 4 := fun x hx => by
  obtain ⟨p, _, rfl⟩ := List.mem_map.mp hx
  simp [prx, dig]
def prtL (w : W) : List (List Nat) := dig w.n :: (w.ms.map mtx ++ w.as.map atx)
def wt (w : W) : List Nat := joinL [59, 32] (prtL w)
theorem joinL_nil_len (k : Nat) : ∀ l : List (List Nat), (∀ x ∈ l, x.length ≤ k) → (joinL [] l).length ≤ k * l.length
  | [], _ => by simp [joinL]
  | [x], h => by simpa [joinL] using h x (by simp)
  | x :: y :: r, h => by
    have := joinL_nil_len k (y :: r) (fun z hz => h z (by simp [hz]))
    have h1 := h x (by simp)
    simp only [joinL, List.length_append, List.length_nil, List.length_cons, Nat.mul_add, Nat.mul_one] at this ⊢
    omega
theorem joinSize_le (n k : Nat) : ∀ l : List (List Nat), (∀ x ∈ l, x.length ≤ k) → joinSize n l ≤ (k + n) * l.length
  | [], _ => by simp [joinSize]
  | x :: r, h => by
    have := joinSize_le n k r (fun z hz => h z (by simp [hz]))
    have h1 := h x (by simp)
    simp only [joinSize, List.length_cons, Nat.mul_add, Nat.mul_one]
    rw [Nat.add_mul] at *
    omega
theorem mtx_len {w : W} (h : GdW w) : ∀ m ∈ w.ms, (mtx m).length ≤ 300 := fun m hm => by
  have h1 := h.pts m hm
  have h2 := (h.nm m hm).2.1
  have h3 := joinL_nil_len 2 (m.2.map ptx) (by simp [ptx, dig])
  simp only [List.length_map] at h3
  simp only [mtx, List.length_append, List.length_singleton]
  omega
theorem atx_len {w : W} (h : GdW w) : ∀ m ∈ w.as, (atx m).length ≤ 300 := fun m hm => by
  have h1 := h.prs m hm
  have h2 := (h.na m hm).2.1
  have h3 := joinL_nil_len 4 (m.2.map prx) prx_le
  simp only [List.length_map] at h3
  simp only [atx, List.length_append, List.length_singleton]
  omega
theorem prt_len {w : W} (h : GdW w) : (∀ x ∈ prtL w, x.length ≤ 300) ∧ (prtL w).length ≤ 7 := by
  have h1 := h.lm
  have h2 := h.la
  refine ⟨fun x hx => ?_, by simp [prtL]; omega⟩
  simp only [prtL, List.mem_cons, List.mem_append, List.mem_map] at hx
  rcases hx with rfl | ⟨m, hm, rfl⟩ | ⟨m, hm, rfl⟩
  · simp [dig]
  · exact mtx_len h m hm
  · exact atx_len h m hm
theorem wt_len {w : W} (h : GdW w) : (wt w).length ≤ 3000 := by
  have h1 := prt_len h
  have : ∀ l : List (List Nat), (joinL [59, 32] l).length ≤ joinSize 2 l := fun l => by
    induction l with
    | nil => simp [joinL]
    | cons a r ih =>
      cases r with
      | nil => simp [joinL, joinSize]
      | cons b r =>
        simp only [joinL, joinSize, List.length_append, List.length_cons, List.length_nil] at ih ⊢
        omega
  have h2 := this (prtL w)
  have h3 := joinSize_le 2 300 (prtL w) h1.1
  unfold wt
  have h4 : (300 + 2) * (prtL w).length ≤ 302 * 7 := Nat.mul_le_mul (Nat.le_refl _) h1.2
  omega
section
variable {s : Sh} {w : W}
theorem c_show_world (h : GdW w) (k : Nat) : callN (k + 1) .show_world [dW w] s = some (.str (wt w), s) := by
  refine call_rt rfl ?_
  have n1 := h.n1
  have n8 := h.n8
  have hlm := h.lm
  have hla := h.la
  have hn : 0 ≤ w.n ∧ w.n ≤ 9 := by omega
  simp [b_show_world, hn]
  refine run_pre dM (fun pre ρ => ∃ acc x2 x3 x5, acc = (dig w.n :: pre.map mtx).map D.str ∧ (∀ d, x5 ≠ .o d) ∧ ρ = [.p (dW w), .o (.lst acc), x2, x3, .un, x5, .un, .un]) w.ms (by simp) ⟨[.str (dig w.n)], .un, .un, .un, by simp, by simp, by simp [dig]⟩ (fun pre m post hpre ρ ⟨acc, x2, x3, x5, hacc, h5, e⟩ => ?_) ?_
  · subst e
    have hm : m ∈ w.ms := by rw [hpre]; simp
    have hlen := len_pre hpre
    have hpt := h.pts m hm
    have hnm := (h.nm m hm).2.1
    have hb2 : acc.length < 16777216 := by rw [hacc]; simp; omega
    refine ⟨_, rfl, ?_⟩
    refine ⟨[.p (dW w), .o (.lst (acc ++ [.str (mtx m)])), .p (.str m.1), .p (.tup (m.2.map .int)), .un, x5, .un, .un], ?_, acc ++ [.str (mtx m)], .p (.str m.1), .p (.tup (m.2.map .int)), x5, by simp [hacc], h5, by simp⟩
    clear hacc
    have hc : evE (callN k) (.comp false (.bin .add (.str [32]) (.b1 .str1 (.var 5))) (.one 5) (.val (.var 3)) (.bl true)) [Sl.p (dW w), .o (.lst acc), .p (.str m.1), .p (.tup (m.2.map .int)), .un, x5, .un, .un] s = some (.lst ((m.2.map ptx).map .str), s) := by
      have e : (m.2.map ptx).map D.str = m.2.map fun x => .str (ptx x) := by simp
      rw [e]
      refine ev_comp_m (e := .int) (l := m.2) (fun x => .str (ptx x)) (by simp) (by
        cases x5 with
        | o d => exact absurd rfl (h5 d)
        | un => rfl
        | p d => rfl) (by omega) (fun x hx => ⟨_, rfl, ?_⟩)
      have := h.im m hm x hx
      have h0 : 0 ≤ x ∧ x ≤ 9 := by omega
      simp [h0, ptx, dig]
    have hj : joinD (.str []) (.lst ((m.2.map ptx).map .str)) = some (.str (joinL [] (m.2.map ptx))) := by
      simp only [joinD, asStrs_map, Option.bind_some]
      have := joinSize_le 0 2 (m.2.map ptx) (by simp [ptx, dig])
      simp only [List.length_map] at this
      rw [if_pos (by simp; omega)]
    have hml := mtx_len h m hm
    simp only [mtx, List.length_append, List.length_singleton] at hml ⊢
    generalize (m.2.map ptx).map D.str = L1 at *
    generalize joinL [] (m.2.map ptx) = J at *
    have hb1 : m.1.length ≤ 16777215 := by omega
    have hb3 : m.1.length + (1 + J.length) ≤ 16777216 := by omega
    have hb4 : m.1.length + 1 + J.length ≤ 16777216 := by omega
    simp [bor, hc, hj, hb1, hb2, hb3, hb4]
  · rintro ρ ⟨acc, x2, x3, x5, hacc, h5, rfl⟩
    refine run_pre dA (fun pre ρ => ∃ acc x2 x3 x4 x5 x6 x7, acc = (dig w.n :: (w.ms.map mtx ++ pre.map atx)).map D.str ∧ (∀ d, x6 ≠ .o d) ∧ (∀ d, x7 ≠ .o d) ∧ ρ = [.p (dW w), .o (.lst acc), x2, x3, x4, x5, x6, x7]) w.as (by simp) ⟨acc, x2, x3, .un, x5, .un, .un, by simp [hacc], by simp, by simp, by simp⟩ (fun pre m post hpre ρ ⟨acc, x2, x3, x4, x5, x6, x7, hacc, h6, h7, e⟩ => ?_) ?_
    · subst e
      have hm : m ∈ w.as := by rw [hpre]; simp
      have hlen := len_pre hpre
      have hpt := h.prs m hm
      have hnm := (h.na m hm).2.1
      have hb2 : acc.length < 16777216 := by rw [hacc]; simp; omega
      refine ⟨_, rfl, ?_⟩
      refine ⟨[.p (dW w), .o (.lst (acc ++ [.str (atx m)])), .p (.str m.1), x3, .p (.tup (m.2.map ofPair)), x5, x6, x7], ?_, acc ++ [.str (atx m)], .p (.str m.1), x3, .p (.tup (m.2.map ofPair)), x5, x6, x7, by simp [hacc], h6, h7, by simp⟩
      clear hacc
      have hc : evE (callN k) (.comp false (.fstr [32] (.var 6) [45] (.var 7)) (.many [6, 7]) (.val (.var 4)) (.bl true)) [Sl.p (dW w), .o (.lst acc), .p (.str m.1), x3, .p (.tup (m.2.map ofPair)), x5, x6, x7] s = some (.lst ((m.2.map prx).map .str), s) := by
        have e : (m.2.map prx).map D.str = m.2.map fun x => .str (prx x) := by simp
        rw [e]
        refine ev_comp_m (e := ofPair) (l := m.2) (fun x => .str (prx x)) (by simp) (by
          cases x6 with
          | o d => exact absurd rfl (h6 d)
          | un => cases x7 with
            | o d => exact absurd rfl (h7 d)
            | un => rfl
            | p d => rfl
          | p d => cases x7 with
            | o d => exact absurd rfl (h7 d)
            | un => rfl
            | p d => rfl) (by omega) (fun p hp => ⟨_, rfl, ?_⟩)
        have := h.ia m hm p hp
        have h0 : (0 ≤ p.1 ∧ p.1 ≤ 9) ∧ 0 ≤ p.2 ∧ p.2 ≤ 9 := by omega
        simp [h0, prx, dig]
      have hj : joinD (.str []) (.lst ((m.2.map prx).map .str)) = some (.str (joinL [] (m.2.map prx))) := by
        simp only [joinD, asStrs_map, Option.bind_some]
        have := joinSize_le 0 4 (m.2.map prx) prx_le
        simp only [List.length_map] at this
        rw [if_pos (by simp; omega)]
      have hml := atx_len h m hm
      simp only [atx, List.length_append, List.length_singleton] at hml ⊢
      generalize (m.2.map prx).map D.str = L1 at *
      generalize joinL [] (m.2.map prx) = J at *
      have hb1 : m.1.length ≤ 16777215 := by omega
      have hb3 : m.1.length + (1 + J.length) ≤ 16777216 := by omega
      have hb4 : m.1.length + 1 + J.length ≤ 16777216 := by omega
      simp [bor, hc, hj, hb1, hb2, hb3, hb4]
    · rintro ρ ⟨acc, x2, x3, x4, x5, x6, x7, hacc, h6, h7, rfl⟩
      have hj : joinD (.str [59, 32]) (.lst acc) = some (.str (wt w)) := by
        rw [hacc]
        simp only [joinD, asStrs_map, Option.bind_some]
        have h1 := prt_len h
        have h3 := joinSize_le 2 300 (prtL w) h1.1
        have h4 : (300 + 2) * (prtL w).length ≤ 302 * 7 := Nat.mul_le_mul (Nat.le_refl _) h1.2
        rw [if_pos (by simp only [prtL] at h3 h4; simp at h3 h4 ⊢; omega)]
        rfl
      simp [hj]
end
end Pk
end
section
-- PuWt2
set_option linter.all false
set_option maxRecDepth 10000
/-! A world's text in the law; a world's text read back. -/
namespace Pk
open PySem
section
variable {s : Sh} {w : W}
theorem c_law_text (h : GdW w) (k : Nat) : callN (k + 1) .law_text [dW w] s = some (.str (wt w), s) := by
  refine call_rt rfl ?_
  have n1 := h.n1
  have n8 := h.n8
  have hlm := h.lm
  have hla := h.la
  have hn : 0 ≤ w.n ∧ w.n ≤ 9 := by omega
  simp [b_law_text, hn]
  refine run_pre dM (fun pre ρ => ∃ acc x2 x3 x5, acc = (dig w.n :: pre.map mtx).map D.str ∧ (∀ d, x5 ≠ .o d) ∧ ρ = [.p (dW w), .o (.lst acc), x2, x3, .un, x5, .un, .un]) w.ms (by simp) ⟨[.str (dig w.n)], .un, .un, .un, by simp, by simp, by simp [dig]⟩ (fun pre m post hpre ρ ⟨acc, x2, x3, x5, hacc, h5, e⟩ => ?_) ?_
  · subst e
    have hm : m ∈ w.ms := by rw [hpre]; simp
    have hlen := len_pre hpre
    have hpt := h.pts m hm
    have hnm := (h.nm m hm).2.1
    have hb2 : acc.length < 16777216 := by rw [hacc]; simp; omega
    refine ⟨_, rfl, ?_⟩
    refine ⟨[.p (dW w), .o (.lst (acc ++ [.str (mtx m)])), .p (.str m.1), .p (.tup (m.2.map .int)), .un, x5, .un, .un], ?_, acc ++ [.str (mtx m)], .p (.str m.1), .p (.tup (m.2.map .int)), x5, by simp [hacc], h5, by simp⟩
    clear hacc
    have hc : evE (callN k) (.comp false (.bin .add (.str [32]) (.b1 .str1 (.var 5))) (.one 5) (.val (.var 3)) (.bl true)) [Sl.p (dW w), .o (.lst acc), .p (.str m.1), .p (.tup (m.2.map .int)), .un, x5, .un, .un] s = some (.lst ((m.2.map ptx).map .str), s) := by
      have e : (m.2.map ptx).map D.str = m.2.map fun x => .str (ptx x) := by simp
      rw [e]
      refine ev_comp_m (e := .int) (l := m.2) (fun x => .str (ptx x)) (by simp) (by
        cases x5 with
        | o d => exact absurd rfl (h5 d)
        | un => rfl
        | p d => rfl) (by omega) (fun x hx => ⟨_, rfl, ?_⟩)
      have := h.im m hm x hx
      have h0 : 0 ≤ x ∧ x ≤ 9 := by omega
      simp [h0, ptx, dig]
    have hj : joinD (.str []) (.lst ((m.2.map ptx).map .str)) = some (.str (joinL [] (m.2.map ptx))) := by
      simp only [joinD, asStrs_map, Option.bind_some]
      have := joinSize_le 0 2 (m.2.map ptx) (by simp [ptx, dig])
      simp only [List.length_map] at this
      rw [if_pos (by simp; omega)]
    have hml := mtx_len h m hm
    simp only [mtx, List.length_append, List.length_singleton] at hml ⊢
    generalize (m.2.map ptx).map D.str = L1 at *
    generalize joinL [] (m.2.map ptx) = J at *
    have hb1 : m.1.length ≤ 16777215 := by omega
    have hb3 : m.1.length + (1 + J.length) ≤ 16777216 := by omega
    have hb4 : m.1.length + 1 + J.length ≤ 16777216 := by omega
    simp [bor, hc, hj, hb1, hb2, hb3, hb4]
  · rintro ρ ⟨acc, x2, x3, x5, hacc, h5, rfl⟩
    refine run_pre dA (fun pre ρ => ∃ acc x2 x3 x4 x5 x6 x7, acc = (dig w.n :: (w.ms.map mtx ++ pre.map atx)).map D.str ∧ (∀ d, x6 ≠ .o d) ∧ (∀ d, x7 ≠ .o d) ∧ ρ = [.p (dW w), .o (.lst acc), x2, x3, x4, x5, x6, x7]) w.as (by simp) ⟨acc, x2, x3, .un, x5, .un, .un, by simp [hacc], by simp, by simp, by simp⟩ (fun pre m post hpre ρ ⟨acc, x2, x3, x4, x5, x6, x7, hacc, h6, h7, e⟩ => ?_) ?_
    · subst e
      have hm : m ∈ w.as := by rw [hpre]; simp
      have hlen := len_pre hpre
      have hpt := h.prs m hm
      have hnm := (h.na m hm).2.1
      have hb2 : acc.length < 16777216 := by rw [hacc]; simp; omega
      refine ⟨_, rfl, ?_⟩
      refine ⟨[.p (dW w), .o (.lst (acc ++ [.str (atx m)])), .p (.str m.1), x3, .p (.tup (m.2.map ofPair)), x5, x6, x7], ?_, acc ++ [.str (atx m)], .p (.str m.1), x3, .p (.tup (m.2.map ofPair)), x5, x6, x7, by simp [hacc], h6, h7, by simp⟩
      clear hacc
      have hc : evE (callN k) (.comp false (.bin .add (.bin .add (.bin .add (.str [32]) (.b1 .str1 (.var 6))) (.str [45])) (.b1 .str1 (.var 7))) (.many [6, 7]) (.val (.var 4)) (.bl true)) [Sl.p (dW w), .o (.lst acc), .p (.str m.1), x3, .p (.tup (m.2.map ofPair)), x5, x6, x7] s = some (.lst ((m.2.map prx).map .str), s) := by
        have e : (m.2.map prx).map D.str = m.2.map fun x => .str (prx x) := by simp
        rw [e]
        refine ev_comp_m (e := ofPair) (l := m.2) (fun x => .str (prx x)) (by simp) (by
          cases x6 with
          | o d => exact absurd rfl (h6 d)
          | un => cases x7 with
            | o d => exact absurd rfl (h7 d)
            | un => rfl
            | p d => rfl
          | p d => cases x7 with
            | o d => exact absurd rfl (h7 d)
            | un => rfl
            | p d => rfl) (by omega) (fun p hp => ⟨_, rfl, ?_⟩)
        have := h.ia m hm p hp
        have h0 : (0 ≤ p.1 ∧ p.1 ≤ 9) ∧ 0 ≤ p.2 ∧ p.2 ≤ 9 := by omega
        simp [h0, prx, dig]
      have hj : joinD (.str []) (.lst ((m.2.map prx).map .str)) = some (.str (joinL [] (m.2.map prx))) := by
        simp only [joinD, asStrs_map, Option.bind_some]
        have := joinSize_le 0 4 (m.2.map prx) prx_le
        simp only [List.length_map] at this
        rw [if_pos (by simp; omega)]
      have hml := atx_len h m hm
      simp only [atx, List.length_append, List.length_singleton] at hml ⊢
      generalize (m.2.map prx).map D.str = L1 at *
      generalize joinL [] (m.2.map prx) = J at *
      have hb1 : m.1.length ≤ 16777215 := by omega
      have hb3 : m.1.length + (1 + J.length) ≤ 16777216 := by omega
      have hb4 : m.1.length + 1 + J.length ≤ 16777216 := by omega
      simp [bor, hc, hj, hb1, hb2, hb3, hb4]
    · rintro ρ ⟨acc, x2, x3, x4, x5, x6, x7, hacc, h6, h7, rfl⟩
      have hj : joinD (.str [59, 32]) (.lst acc) = some (.str (wt w)) := by
        rw [hacc]
        simp only [joinD, asStrs_map, Option.bind_some]
        have h1 := prt_len h
        have h3 := joinSize_le 2 300 (prtL w) h1.1
        have h4 : (300 + 2) * (prtL w).length ≤ 302 * 7 := Nat.mul_le_mul (Nat.le_refl _) h1.2
        rw [if_pos (by simp only [prtL] at h3 h4; simp at h3 h4 ⊢; omega)]
        rfl
      simp [hj]

/-! ### is_world -/
theorem c_rises {α : Type} (k : Nat) (e : α → D) (lt : α → α → Bool) (d : List D → D) (hd : ∀ l : List D, b1D .len1 (d l) = some (.int l.length) ∧ ∀ i : Int, ixD (d l) (.int i) = L2.atI l i) (l : List α) (hl : l.length ≤ 1000)
    (h : ∀ x ∈ l, ∀ y ∈ l, cmpD .lt (e x) (e y) = some (.bl (lt x y))) (hp : l.Pairwise fun a b => lt a b = true) : callN (k + 1) .rises [d (l.map e)] s = some (.bl true, s) := by
  refine call_rt rfl ?_
  obtain ⟨h1, h2⟩ := hd (l.map e)
  generalize hD : d (l.map e) = dl at *
  have hc : evE (callN k) (.comp false (.cmp .lt (.ix (.var 0) (.var 1)) (.ix (.var 0) (.bin .add (.var 1) (.int 1)))) (.one 1) (.r1 (.bin .sub (.b1 .len1 (.var 0)) (.int 1))) (.bl true)) [Sl.p dl, .un] s = some (.lst ((List.range (l.length - 1)).map fun i => .bl true), s) := by
    refine ev_comp_m (e := fun i : Nat => .int (0 + (i : Nat))) (l := List.range (l.length - 1)) (fun i => .bl true) ?_ rfl (by simp; omega) (fun i hi => ⟨_, rfl, ?_⟩)
    · have hs : small? ((l.length : Int) - 1) = true := by simp [small?]; omega
      simp [h1, hs, rngL]
    · rw [List.mem_range] at hi
      have a1 := h2 (i : Int)
      have a2 := h2 (((i + 1 : Nat)) : Int)
      rw [atI_nat, List.getElem?_map, List.getElem?_eq_getElem (show i < l.length by omega)] at a1
      rw [atI_nat, List.getElem?_map, List.getElem?_eq_getElem (show i + 1 < l.length by omega)] at a2
      have a3 := h l[i] (List.getElem_mem _) l[i + 1] (List.getElem_mem _)
      have a4 := (List.pairwise_iff_getElem.mp hp) i (i + 1) (by omega) (by omega) (by omega)
      rw [a4] at a3
      simp at a1 a2
      simp only [evE, bor]
      simp [a1, a2, a3]
  simp [b_rises, hc]
  rw [asBls_m (fun _ => true)]
  simp
end
end Pk
end
section
-- PuWt3
set_option linter.all false
set_option maxRecDepth 10000
/-! is_world, read_world, run. -/
namespace Pk
open PySem
section
variable {s : Sh} {w : W}
theorem c_is_point (k : Nat) (x n : Int) (h : 0 ≤ x ∧ x < n) : callN (k + 2) .is_point [.int x, .int n] s = some (.bl true, s) := by
  refine call_rt rfl ?_
  simp [b_is_point, c_is_whole, h]
theorem c_is_pair (k : Nat) (p : Int × Int) (n : Int) (h : (0 ≤ p.1 ∧ p.1 < n) ∧ 0 ≤ p.2 ∧ p.2 < n) : callN (k + 3) .is_pair [ofPair p, .int n] s = some (.bl true, s) := by
  refine call_rt rfl ?_
  simp [b_is_pair, c_is_point (s := s) k p.1 n h.1, c_is_point (s := s) k p.2 n h.2]
def dG {α : Type} (e : α → D) (m : List Nat × List α) : D := .tup [.str m.1, .tup (m.2.map e)]
theorem c_are_named {α : Type} (k : Nat) (e : α → D) (lt : α → α → Bool) (g : Fn) (hg : g = .is_point ∨ g = .is_pair) (n : Int) (l : List (List Nat × List α)) (hl : l.length ≤ 3) (hn : ∀ m ∈ l, okName m.1) (hr : (l.map Prod.fst).Pairwise fun a b => ltS a b = true) (hlen : ∀ m ∈ l, m.2.length ≤ 1000)
    (hcmp : ∀ x y, cmpD .lt (e x) (e y) = some (.bl (lt x y))) (hp : ∀ m ∈ l, m.2.Pairwise fun a b => lt a b = true) (hc : ∀ m ∈ l, ∀ x ∈ m.2, callN (k + 1) g [e x, .int n] s = some (.bl true, s)) : callN (k + 2) .are_named [.tup (l.map (dG e)), .int n, .fn g] s = some (.bl true, s) := by
  refine call_rt rfl ?_
  have hl3 : ¬ (3 : Int) < (l.map (dG e)).length := by simp; omega
  have hnames : ∀ x3, (∀ d, x3 ≠ Sl.o d) → evE (callN (k + 1)) (.comp false (.ix (.var 3) (.int 0)) (.one 3) (.val (.var 0)) (.bl true)) [.p (.tup (l.map (dG e))), .p (.int n), .p (.fn g), x3, .un] s = some (.lst ((l.map Prod.fst).map .str), s) := fun x3 h3 => by
    have e1 : (l.map Prod.fst).map D.str = l.map fun m => .str m.1 := by simp
    rw [e1]
    exact ev_comp_m (e := dG e) (l := l) (fun m => .str m.1) (by simp) (by
      cases x3 with
      | o d => exact absurd rfl (h3 d)
      | un => rfl
      | p d => rfl) (by omega) (fun m hm => ⟨_, rfl, by simp [dG]⟩)
  have hri := c_rises (s := s) k D.str ltS D.lst (fun l => ⟨rfl, fun i => rfl⟩) (l.map Prod.fst) (by simp; omega) (fun x _ y _ => rfl) hr
  show exSs (callN (k + 1)) b_are_named [.p (.tup (l.map (dG e))), .p (.int n), .p (.fn g), .un, .un] s = _
  unfold b_are_named
  rw [exSs_nx (ρ' := [.p (.tup (l.map (dG e))), .p (.int n), .p (.fn g), .un, .un]) (s' := s) (by
    generalize l.map (dG e) = L at *
    simp [hl3])]
  refine run_pre (dG e) (fun pre ρ => ∃ x3, (∀ d, x3 ≠ .o d) ∧ ρ = [.p (.tup (l.map (dG e))), .p (.int n), .p (.fn g), x3, .un]) l (by simp) ⟨.un, by simp, rfl⟩ (fun pre m post hpre ρ ⟨x3, h3, e1⟩ => ?_) ?_
  · subst e1
    have hm : m ∈ l := by rw [hpre]; simp
    have h1 := c_is_name (s := s) k m.1 (hn m hm)
    have h2 := c_rises (s := s) k e lt D.tup (fun l => ⟨rfl, fun i => rfl⟩) m.2 (hlen m hm) (fun x _ y _ => hcmp x y) (hp m hm)
    have h4 := hlen m hm
    have h5 : evE (callN (k + 1)) (.comp false (.callv 2 (.cons (.var 4) (.cons (.var 1) .nil))) (.one 4) (.val (.ix (.var 3) (.int 1))) (.bl true)) [.p (.tup (l.map (dG e))), .p (.int n), .p (.fn g), .p (.tup [.str m.1, .tup (m.2.map e)]), .un] s = some (.lst (m.2.map fun x => .bl true), s) := by
      exact ev_comp_m (e := e) (l := m.2) (fun x => .bl true) (by simp) (by simp) (by omega) (fun x hx => ⟨_, rfl, by
        have := hc m hm x hx
        rcases hg with rfl | rfl <;> simp [this]⟩)
    have h6 : asBls (m.2.map fun x => D.bl true) = some (m.2.map fun x => true) := asBls_m (fun _ => true) m.2
    have h7 : (m.2.map fun x => true).all id = true := by simp
    refine ⟨[.p (.tup (l.map (dG e))), .p (.int n), .p (.fn g), .p (.tup [.str m.1, .tup (m.2.map e)]), .un], rfl, [.p (.tup (l.map (dG e))), .p (.int n), .p (.fn g), .p (.tup [.str m.1, .tup (m.2.map e)]), .un], ?_, .p (dG e m), by simp, rfl⟩
    generalize l.map (dG e) = L at *
    generalize m.2.map e = M at *
    generalize (m.2.map fun x => D.bl true) = B at *
    generalize (m.2.map fun x => true) = B2 at *
    simp [h1, h2, h5, h6, h7]
  · rintro ρ ⟨x3, h3, rfl⟩
    have := hnames x3 h3
    generalize l.map (dG e) = L at *
    generalize (l.map Prod.fst).map D.str = N at *
    simp [this, hri]
theorem c_is_world (h : GdW w) (k : Nat) : callN (k + 6) .is_world [dW w] s = some (.bl true, s) := by
  refine call_rt rfl ?_
  have n1 := h.n1
  have n8 := h.n8
  have h1 : ¬ w.n < 1 := by omega
  have h2 : ¬ (8 : Int) < w.n := by omega
  have hm := c_are_named (s := s) (k + 3) D.int ltI .is_point (.inl rfl) w.n w.ms h.lm h.nm h.rm (fun m hm => by have := h.pts m hm; omega) (fun x y => rfl) h.pm (fun m hm x hx => c_is_point (k + 2) x w.n (h.im m hm x hx))
  have ha := c_are_named (s := s) (k + 3) ofPair ltP .is_pair (.inr rfl) w.n w.as h.la h.na h.ra (fun m hm => by have := h.prs m hm; omega) (fun x y => rfl) h.pa (fun m hm x hx => c_is_pair (k + 1) x w.n (h.ia m hm x hx))
  have e1 : w.ms.map dM = w.ms.map (dG D.int) := rfl
  have e2 : w.as.map dA = w.as.map (dG ofPair) := rfl
  show exSs (callN (k + 5)) b_is_world [.p (dW w), .un, .un, .un] s = _
  unfold dW
  rw [e1, e2]
  generalize w.ms.map (dG D.int) = M at *
  generalize w.as.map (dG ofPair) = A at *
  simp [b_is_world, c_is_whole, h1, h2, hm, ha]
end
end Pk
end
section
-- PuWt4
set_option linter.all false
set_option maxRecDepth 10000
/-! read_world, run. -/
namespace Pk
open PySem
section
variable {s : Sh} {w : W}
theorem mem_FIG {c : Nat} : c ∈ [48, 49, 50, 51, 52, 53, 54, 55, 56, 57] ↔ 48 ≤ c ∧ c ≤ 57 := by
  simp only [List.mem_cons, List.not_mem_nil, or_false]
  omega
theorem c_read_point (k : Nat) (x : Int) (h : 0 ≤ x ∧ x ≤ 9) : callN (k + 1) .read_point [.str (dig x)] s = some (.int x, s) := by
  refine call_rt rfl ?_
  have h1 := mem_FIG.mpr (show 48 ≤ 48 + x.toNat ∧ 48 + x.toNat ≤ 57 by omega)
  have h2 : 48 + x.toNat ≤ 57 := by omega
  have h3 : 0 ≤ x := h.1
  generalize hc : 48 + x.toNat = c at *
  have h4 : 48 ≤ c := by omega
  have h5 : ((c - 48 : Nat) : Int) = x := by omega
  simp only [List.mem_cons, List.not_mem_nil, or_false] at h1
  simp [b_read_point, dig, hc, h1, h2, h4, h5]
theorem c_read_pair (k : Nat) (p : Int × Int) (h1 : 0 ≤ p.1 ∧ p.1 ≤ 9) (h2 : 0 ≤ p.2 ∧ p.2 ≤ 9) : callN (k + 2) .read_pair [.str (dig p.1 ++ [45] ++ dig p.2)] s = some (ofPair p, s) := by
  refine call_rt rfl ?_
  have e1 := c_read_point (s := s) k p.1 h1
  have e2 := c_read_point (s := s) k p.2 h2
  have e3 : partD (.str (dig p.1 ++ [45] ++ dig p.2)) (.str [45]) = some (.tup [.str (dig p.1), .str [45], .str (dig p.2)]) := by
    have : ¬ (48 + p.1.toNat = 45) := by omega
    simp [partD, partL, dig, this]
  generalize dig p.1 ++ [45] ++ dig p.2 = t at *
  simp [b_read_pair, e1, e2, e3]
theorem cut_init {α : Type} (xs : List α) (x : α) : cutL (xs ++ [x]) none (some (-1)) = xs := by
  unfold cutL HT.sIx
  have : (-1 + ((xs.length : Int) + 1)).toNat = xs.length := by omega
  simp [this]
theorem cut_last {α : Type} (xs : List α) (x : α) : cutL (xs ++ [x]) (some (-1)) none = [x] := by
  unfold cutL HT.sIx
  have : (-1 + ((xs.length : Int) + 1)).toNat = xs.length := by omega
  simp [this]
/-- the words of a part -/
theorem spl_part {α : Type} (nm : List Nat) (c : Nat) (f : α → List Nat) (l : List α) (hn : ∀ a ∈ nm, isLet a = true) (hc : c ≠ 32) (hf : ∀ x ∈ l, 32 ∉ f x) : spl (nm ++ [c] ++ joinL [] (l.map fun x => [32] ++ f x)) [32] = (nm ++ [c]) :: l.map f := by
  have e : nm ++ [c] ++ joinL [] (l.map fun x => [32] ++ f x) = joinL [32] ((nm ++ [c]) :: l.map f) := by
    generalize nm ++ [c] = a
    clear hn hc hf
    induction l generalizing a with
    | nil => simp [joinL]
    | cons x r ih =>
      have h1 : joinL [] (([32] ++ f x) :: r.map fun x => [32] ++ f x) = [32] ++ f x ++ joinL [] (r.map fun x => [32] ++ f x) := by
        cases r <;> simp [joinL]
      rw [List.map_cons, h1, List.map_cons, joinL_cons _ _ _ (by simp), ← ih (f x)]
      simp
  rw [e]
  refine spl_blank _ (by simp) fun a ha => ?_
  rcases List.mem_cons.mp ha with rfl | ha
  · simp only [List.mem_append, List.mem_singleton, not_or]
    refine ⟨fun z => ?_, fun z => hc z.symm⟩
    have := hn _ z
    exact absurd this (by decide)
  · obtain ⟨x, hx, rfl⟩ := List.mem_map.mp ha
    exact hf x hx
theorem c_read_mpart (h : GdW w) (k : Nat) : ∀ m ∈ w.ms, callN (k + 2) .read_part [.str (mtx m)] s = some (.tup [.str [58], .str m.1, .tup (m.2.map .int)], s) := fun m hm => by
  refine call_rt rfl ?_
  have n8 := h.n8
  have hp := h.pts m hm
  have hnm := h.nm m hm
  have h1 := split_spl (mtx m) [32] (by simp) (by have := mtx_len h m hm; omega)
  have h2 : spl (mtx m) [32] = (m.1 ++ [58]) :: m.2.map dig := spl_part m.1 58 dig m.2 hnm.2.2.1 (by decide) (fun x hx => by simp [dig]; omega)
  rw [h2, List.map_cons] at h1
  have h3 : ∀ ρ, ρ = [Sl.p (.str (mtx m)), .p (.lst (.str (m.1 ++ [58]) :: (m.2.map dig).map .str)), .p (.str m.1), .p (.str [58]), .un] → evE (callN (k + 1)) (.comp false (.call .read_point (.cons (.var 4) .nil)) (.one 4) (.val (.sl (.var 1) (.ok (.int 1)) .no)) (.bl true)) ρ s = some (.lst (m.2.map .int), s) := by
    rintro ρ rfl
    have hcf := cut_from (D.str (m.1 ++ [58]) :: (m.2.map dig).map .str) 1
    refine ev_comp_m (e := fun x => .str (dig x)) (l := m.2) .int (by simp at hcf; simp [hcf]) (by simp) (by omega) (fun x hx => ⟨_, rfl, ?_⟩)
    have := h.im m hm x hx
    simp [c_read_point (s := s) k x (by omega)]
  have h3 := h3 _ rfl
  have h4 := c_is_name (s := s) k m.1 hnm
  have h5 := cut_init m.1 58
  have h6 := cut_last m.1 58
  have h7 : m.1.length + 1 ≤ 16777216 := by have := hnm.2.1; omega
  have h8 : (m.1 ++ [58]).length ≤ 16777216 := by simpa using h7
  generalize mtx m = t at *
  generalize m.1 ++ [58] = z at *
  generalize (m.2.map dig).map D.str = L at *
  simp [b_read_part, h1, h3, h4, h5, h6, h8]
theorem c_read_apart (h : GdW w) (k : Nat) : ∀ m ∈ w.as, callN (k + 3) .read_part [.str (atx m)] s = some (.tup [.str [62], .str m.1, .tup (m.2.map ofPair)], s) := fun m hm => by
  refine call_rt rfl ?_
  have n8 := h.n8
  have hp := h.prs m hm
  have hnm := h.na m hm
  have h1 := split_spl (atx m) [32] (by simp) (by have := atx_len h m hm; omega)
  have h2 : spl (atx m) [32] = (m.1 ++ [62]) :: m.2.map (fun p => dig p.1 ++ [45] ++ dig p.2) := by
    have := spl_part m.1 62 (fun p : Int × Int => dig p.1 ++ [45] ++ dig p.2) m.2 hnm.2.2.1 (by decide) (fun x hx => by simp [dig]; omega)
    rw [← this]
    unfold atx prx
    simp
  rw [h2, List.map_cons] at h1
  have h3 : ∀ ρ, ρ = [Sl.p (.str (atx m)), .p (.lst (.str (m.1 ++ [62]) :: (m.2.map (fun p => dig p.1 ++ [45] ++ dig p.2)).map .str)), .p (.str m.1), .p (.str [62]), .un] → evE (callN (k + 2)) (.comp false (.call .read_pair (.cons (.var 4) .nil)) (.one 4) (.val (.sl (.var 1) (.ok (.int 1)) .no)) (.bl true)) ρ s = some (.lst (m.2.map ofPair), s) := by
    rintro ρ rfl
    have hcf := cut_from (D.str (m.1 ++ [62]) :: (m.2.map (fun p => dig p.1 ++ [45] ++ dig p.2)).map .str) 1
    refine ev_comp_m (e := fun p : Int × Int => .str (dig p.1 ++ [45] ++ dig p.2)) (l := m.2) ofPair (by simp at hcf; simp [hcf]) (by simp) (by omega) (fun x hx => ⟨_, rfl, ?_⟩)
    have := h.ia m hm x hx
    have := c_read_pair (s := s) k x (by omega) (by omega)
    generalize dig x.1 ++ [45] ++ dig x.2 = z at *
    simp [this]
  have h3 := h3 _ rfl
  have h4 := c_is_name (s := s) (k + 1) m.1 hnm
  have h5 := cut_init m.1 62
  have h6 := cut_last m.1 62
  have h7 : m.1.length + 1 ≤ 16777216 := by have := hnm.2.1; omega
  have h8 : (m.1 ++ [62]).length ≤ 16777216 := by simpa using h7
  generalize atx m = t at *
  generalize m.1 ++ [62] = z at *
  generalize (m.2.map (fun p => dig p.1 ++ [45] ++ dig p.2)).map D.str = L at *
  simp [b_read_part, h1, h3, h4, h5, h6, h8]
theorem joinL_nil_mem (c : Nat) : ∀ l : List (List Nat), (∀ x ∈ l, c ∉ x) → c ∉ joinL [] l
  | [], _ => by simp [joinL]
  | [x], h => by simpa [joinL] using h x (by simp)
  | x :: y :: r, h => by
    have h1 := joinL_nil_mem c (y :: r) (fun z hz => h z (by simp [hz]))
    have h2 := h x (by simp)
    simp only [joinL, List.mem_append, not_or]
    exact ⟨⟨h2, by simp⟩, h1⟩
theorem no59 (h : GdW w) : ∀ a ∈ prtL w, 59 ∉ a := fun a ha => by
  have n8 := h.n8
  have n1 := h.n1
  have hl : ∀ {n : List Nat}, (∀ c ∈ n, isLet c = true) → 59 ∉ n := fun hn z => absurd (hn _ z) (by decide)
  simp only [prtL, List.mem_cons, List.mem_append, List.mem_map] at ha
  rcases ha with rfl | ⟨m, hm, rfl⟩ | ⟨m, hm, rfl⟩
  · simp [dig]; omega
  · simp only [mtx, List.mem_append, not_or]
    refine ⟨⟨hl (h.nm m hm).2.2.1, by simp⟩, joinL_nil_mem 59 _ fun x hx => ?_⟩
    obtain ⟨y, hy, rfl⟩ := List.mem_map.mp hx
    have := h.im m hm y hy
    simp [ptx, dig]; omega
  · simp only [atx, List.mem_append, not_or]
    refine ⟨⟨hl (h.na m hm).2.2.1, by simp⟩, joinL_nil_mem 59 _ fun x hx => ?_⟩
    obtain ⟨y, hy, rfl⟩ := List.mem_map.mp hx
    have := h.ia m hm y hy
    simp [prx, dig]; omega
theorem filt_t {α : Type} (l : List α) : l.filter (fun _ => true) = l := List.filter_eq_self.mpr (by simp)
theorem filt_f {α : Type} (l : List α) : l.filter (fun _ => false) = [] := List.filter_eq_nil_iff.mpr (by simp)
/-- a part as read -/
inductive Pt where
  | m (x : List Nat × List Int)
  | a (x : List Nat × PS)
def Pt.d : Pt → D
  | .m x => .tup [.str [58], .str x.1, .tup (x.2.map .int)]
  | .a x => .tup [.str [62], .str x.1, .tup (x.2.map ofPair)]
def Pt.e : Pt → D
  | .m x => dM x
  | .a x => dA x
def Pt.tx : Pt → List Nat
  | .m x => mtx x
  | .a x => atx x
def Pt.isM : Pt → Bool
  | .m _ => true
  | .a _ => false
theorem c_read_world (h : GdW w) (k : Nat) : callN (k + 7) .read_world [.str (wt w)] s = some (dW w, s) := by
  refine call_rt rfl ?_
  have n1 := h.n1
  have n8 := h.n8
  have hlm := h.lm
  have hla := h.la
  have hwl := wt_len h
  have hsp := split_spl (wt w) [59, 32] (by simp) (by omega)
  rw [show spl (wt w) [59, 32] = prtL w from spl_semi (prtL w) (by simp [prtL]) (no59 h)] at hsp
  have hpt := c_read_point (s := s) (k + 5) w.n (by omega)
  have hw := c_is_world (s := s) h k
  have hsh := c_show_world (s := s) h (k + 5)
  obtain ⟨P, hP⟩ : ∃ P : List Pt, P = w.ms.map Pt.m ++ w.as.map Pt.a := ⟨_, rfl⟩
  have hPl : P.length ≤ 6 := by rw [hP]; simp; omega
  have hPt : P.map (fun p => D.str p.tx) = (w.ms.map mtx ++ w.as.map atx).map .str := by
    rw [hP, List.map_append, List.map_append, List.map_map, List.map_map, List.map_map, List.map_map]
    rfl
  have hPr : ∀ p ∈ P, callN (k + 6) .read_part [.str p.tx] s = some (p.d, s) := fun p hp => by
    rw [hP] at hp
    simp only [List.mem_append, List.mem_map] at hp
    rcases hp with ⟨m, hm, rfl⟩ | ⟨m, hm, rfl⟩
    · exact c_read_mpart h (k + 4) m hm
    · exact c_read_apart h (k + 3) m hm
  have hPm : (P.filter Pt.isM).map Pt.e = w.ms.map dM := by
    rw [hP, List.filter_append, List.filter_map, List.filter_map]
    have e1 : (Pt.isM ∘ Pt.m) = fun _ => true := rfl
    have e2 : (Pt.isM ∘ Pt.a) = fun _ => false := rfl
    rw [e1, e2]
    simp only [filt_t, filt_f, List.map_nil, List.append_nil, List.nil_append, List.map_map]
    rfl
  have hPa : (P.filter fun p => !p.isM).map Pt.e = w.as.map dA := by
    rw [hP, List.filter_append, List.filter_map, List.filter_map]
    have e1 : ((fun p => !Pt.isM p) ∘ Pt.m) = fun _ => false := rfl
    have e2 : ((fun p => !Pt.isM p) ∘ Pt.a) = fun _ => true := rfl
    rw [e1, e2]
    simp only [filt_t, filt_f, List.map_nil, List.append_nil, List.nil_append, List.map_map]
    rfl
  have hd0 : ∀ p : Pt, ixD p.d (.int 0) = some (.str (if p.isM = true then [58] else [62])) := fun p => by cases p <;> simp [Pt.d, Pt.isM]
  have hd12 : ∀ p : Pt, ∃ x y, ixD p.d (.int 1) = some x ∧ ixD p.d (.int 2) = some y ∧ p.e = .tup [x, y] := fun p => by cases p <;> simp [Pt.d, Pt.e, dM, dA]
  have hsp2 : splitD (.str (wt w)) (.str [59, 32]) = some (.lst (.str (dig w.n) :: P.map fun p => .str p.tx)) := by
    rw [hsp, hPt]
    simp [prtL]
  show exSs (callN (k + 6)) b_read_world [.p (.str (wt w)), .un, .un, .un, .un, .un, .un, .un] s = _
  have hcf := cut_from (D.str (dig w.n) :: P.map fun p => .str p.tx) 1
  simp only [List.drop_one, List.tail_cons] at hcf
  have hcf : cutL (D.str (dig w.n) :: P.map fun p => .str p.tx) (some 1) none = P.map fun p => .str p.tx := hcf
  have hc3 : ∀ L, L = D.str (dig w.n) :: P.map (fun p => D.str p.tx) → evE (callN (k + 6)) (.comp false (.call .read_part (.cons (.var 7) .nil)) (.one 7) (.val (.sl (.var 1) (.ok (.int 1)) .no)) (.bl true)) [.p (.str (wt w)), .p (.lst L), .p (.int w.n), .un, .un, .un, .un, .un] s = some (.lst (P.map Pt.d), s) := by
    rintro L rfl
    exact ev_comp_m (e := fun p : Pt => .str p.tx) (l := P) Pt.d (by simp [hcf]) (by simp) (by omega) (fun p hp => ⟨_, rfl, by simp [hPr p hp]⟩)
  have hc4 : ∀ L, evE (callN (k + 6)) (.comp true (.tup (.cons (.ix (.var 7) (.int 1)) (.cons (.ix (.var 7) (.int 2)) .nil))) (.one 7) (.val (.var 3)) (.cmp .eq (.ix (.var 7) (.int 0)) (.str [58]))) [.p (.str (wt w)), .p (.lst L), .p (.int w.n), .p (.lst (P.map Pt.d)), .un, .un, .un, .un] s = some (.lst (w.ms.map dM), s) := by
    intro L
    rw [← hPm]
    refine ev_comp_f (e := Pt.d) (l := P) Pt.e Pt.isM (by simp) (by simp) (by omega) (fun p hp => ⟨_, rfl, ?_, fun hm => ?_⟩)
    · have := hd0 p
      cases hq : p.isM <;> rw [hq] at this <;> simp [this]
    · obtain ⟨x, y, e1, e2, e3⟩ := hd12 p
      simp [e1, e2, e3]
  have hc5 : ∀ L d, evE (callN (k + 6)) (.comp true (.tup (.cons (.ix (.var 7) (.int 1)) (.cons (.ix (.var 7) (.int 2)) .nil))) (.one 7) (.val (.var 3)) (.cmp .eq (.ix (.var 7) (.int 0)) (.str [62]))) [.p (.str (wt w)), .p (.lst L), .p (.int w.n), .p (.lst (P.map Pt.d)), .p d, .un, .un, .un] s = some (.lst (w.as.map dA), s) := by
    intro L d
    rw [← hPa]
    refine ev_comp_f (e := Pt.d) (l := P) Pt.e (fun p => !p.isM) (by simp) (by simp) (by omega) (fun p hp => ⟨_, rfl, ?_, fun hm => ?_⟩)
    · have := hd0 p
      cases hq : p.isM <;> rw [hq] at this <;> simp [this]
    · obtain ⟨x, y, e1, e2, e3⟩ := hd12 p
      simp [e1, e2, e3]
  have hc3 := hc3 _ rfl
  generalize D.str (dig w.n) = d0 at *
  generalize P.map (fun p => D.str p.tx) = L1 at *
  generalize P.map Pt.d = L2 at *
  have hwt : wt w = wt w := rfl
  unfold dW at *
  generalize w.ms.map dM = M at *
  generalize w.as.map dA = A at *
  generalize wt w = t at *
  simp [b_read_world, hsp2, hpt, hc3, hc4, hc5, hw, hsh]
end
end Pk
end
section
-- PuGen1
set_option linter.all false
set_option maxRecDepth 10000
/-! What the law draws: cells, names, tongues. -/
namespace Pk
open PySem
/-! ### sorted -/
section
variable {α : Type} {lt : α → α → Bool}
theorem mem_insD (x y : α) : ∀ l : List α, y ∈ insD lt x l ↔ y = x ∨ y ∈ l
  | [] => by simp [insD]
  | z :: r => by
    unfold insD
    split
    · simp only [List.mem_cons, mem_insD x y r]
      constructor
      · rintro (h | h | h) <;> simp [h]
      · rintro (h | h | h) <;> simp [h]
    · simp
theorem mem_sortD (y : α) : ∀ l : List α, y ∈ sortD lt l ↔ y ∈ l
  | [] => by simp [sortD]
  | x :: r => by
    have := mem_sortD y r
    unfold sortD at this ⊢
    rw [List.foldr_cons, mem_insD, this]
    simp
theorem len_insD (x : α) : ∀ l : List α, (insD lt x l).length = l.length + 1
  | [] => rfl
  | z :: r => by
    unfold insD
    split
    · simp [len_insD x r]
    · simp
theorem len_sortD : ∀ l : List α, (sortD lt l).length = l.length
  | [] => rfl
  | x :: r => by
    have := len_sortD r
    unfold sortD at this ⊢
    rw [List.foldr_cons, len_insD, this]
    simp
theorem rise_insD (tr : ∀ a b c : α, lt a b = true → lt b c = true → lt a c = true) (tri : ∀ a b : α, a ≠ b → ¬ lt a b = true → lt b a = true) (x : α) : ∀ l : List α, x ∉ l → l.Pairwise (fun a b => lt a b = true) → (insD lt x l).Pairwise fun a b => lt a b = true
  | [], _, _ => by simp [insD]
  | z :: r, hx, h => by
    have hc := List.pairwise_cons.mp h
    simp only [List.mem_cons, not_or] at hx
    unfold insD
    split
    · rename_i l
      refine List.pairwise_cons.mpr ⟨fun a ha => ?_, rise_insD tr tri x r hx.2 hc.2⟩
      rcases (mem_insD x a r).mp ha with rfl | ha
      · exact l
      · exact hc.1 a ha
    · rename_i l
      have hl := tri z x (fun e => hx.1 e.symm) l
      refine List.pairwise_cons.mpr ⟨fun a ha => ?_, h⟩
      rcases List.mem_cons.mp ha with rfl | ha
      · exact hl
      · exact tr _ _ _ hl (hc.1 a ha)
theorem rise_sortD (tr : ∀ a b c : α, lt a b = true → lt b c = true → lt a c = true) (tri : ∀ a b : α, a ≠ b → ¬ lt a b = true → lt b a = true) : ∀ l : List α, l.Nodup → (sortD lt l).Pairwise fun a b => lt a b = true
  | [], _ => by simp [sortD]
  | x :: r, h => by
    have hc := List.nodup_cons.mp h
    have := rise_sortD tr tri r hc.2
    have hm := mem_sortD (lt := lt) x r
    unfold sortD at this hm ⊢
    rw [List.foldr_cons]
    exact rise_insD tr tri x _ (fun z => hc.1 (hm.mp z)) this
end
theorem ltI_iff {a b : Int} : ltI a b = true ↔ a < b := by simp [ltI]
theorem sortI {l : List Int} (h : l.Nodup) : (sortD ltI l).Pairwise fun a b => ltI a b = true := rise_sortD (fun a b c h k => by rw [ltI_iff] at *; omega) (fun a b h k => by rw [ltI_iff] at *; omega) l h
theorem sortS {l : List (List Nat)} (h : l.Nodup) : (sortD ltS l).Pairwise fun a b => ltS a b = true := rise_sortD ltS_trans ltS_tri l h
theorem sortP {l : PS} (h : l.Nodup) : (sortD ltP l).Pairwise fun a b => ltP a b = true := rise_sortD (lt := ltP) (fun _ _ _ h k => ltP_trans h k) (fun _ _ h k => ltP_tri h k) l h
theorem b1_sort_i (l : List Int) (h : l.length < 64) : b1D .sorted1 (.lst (l.map .int)) = some (.lst ((sortD ltI l).map .int)) := by
  show (if (l.map D.int).length < 64 then _ else none) = _
  rw [if_pos (by simpa using h)]
  simp only [asInts_map]
theorem b1_sort_s (l : List (List Nat)) (h : l.length < 64) : b1D .sorted1 (.lst (l.map .str)) = some (.lst ((sortD ltS l).map .str)) := by
  show (if (l.map D.str).length < 64 then _ else none) = _
  rw [if_pos (by simpa using h)]
  cases l with
  | nil => rfl
  | cons x r =>
    have : asInts ((x :: r).map D.str) = none := rfl
    simp only [this, asStrs_map]
theorem b1_sort_p (l : PS) (h : l.length < 64) (hr : ∀ p ∈ l, 0 ≤ p.1 ∧ p.1 < 64 ∧ 0 ≤ p.2 ∧ p.2 < 64) : b1D .sorted1 (.lst (l.map ofPair)) = some (.lst ((sortD ltP l).map ofPair)) := by
  show (if (l.map ofPair).length < 64 then _ else none) = _
  rw [if_pos (by simpa using h)]
  cases l with
  | nil => rfl
  | cons x r =>
    have h1 : asInts ((x :: r).map ofPair) = none := rfl
    have h2 : asStrs ((x :: r).map ofPair) = none := rfl
    simp only [h1, h2, asPrs_map]
    rw [if_pos (by
      rw [List.all_eq_true]
      exact fun p hp => by simpa using hr p hp)]
/-! ### a cell -/
section
variable {s : Sh}
theorem c_cell (k : Nat) (ns : List Int) (i : Int) (h : 0 ≤ i) : ∃ c, callN (k + 1) .law_cell [.scr ns, .int i] s = some (.int c, s) := by
  by_cases hl : i < ns.length
  · refine ⟨ns[i.toNat]'(by omega) % 2 ^ 64, call_rt rfl ?_⟩
    have := atI_pos h hl
    simp [b_law_cell, hl, this]
  · refine ⟨0, call_rt rfl ?_⟩
    simp [b_law_cell, hl]
/-! ### names -/
def LETS : List Nat := [97, 98, 99, 100, 101, 102, 103, 104, 105, 106, 107, 108, 109, 110, 111, 112, 113, 114, 115, 116, 117, 118, 119, 120, 121, 122]
theorem at_lets (i : Int) : L2.atI LETS (i % 26) = some (97 + (i % 26).toNat) := by
  have h0 : 0 ≤ i % 26 := Int.emod_nonneg _ (by decide)
  have h1 : i % 26 < 26 := Int.emod_lt_of_pos _ (by decide)
  generalize i % 26 = j at *
  obtain ⟨n, rfl⟩ := Int.eq_ofNat_of_zero_le h0
  have hn : n < 26 := by omega
  rw [atI_nat]
  have : ∀ m, m < 26 → LETS[m]? = some (97 + m) := by decide
  simpa using this n hn
def BASES : List Nat := [98, 99, 100, 102, 103]
theorem at_base (i : Int) : ∃ b ∈ BASES, L2.atI BASES (i % 5) = some b := by
  have h0 : 0 ≤ i % 5 := Int.emod_nonneg _ (by decide)
  have h1 : i % 5 < 5 := Int.emod_lt_of_pos _ (by decide)
  generalize i % 5 = j at *
  rw [atI_pos h0 (by show j < ((5 : Nat) : Int); omega)]
  exact ⟨_, List.getElem_mem _, rfl⟩
def WRDS : List (List Nat) := [[97, 110, 100], [111, 114], [110, 111, 116], [115, 111, 109, 101], [101, 118, 101, 114, 121], [108, 101, 97, 115, 116], [116, 114, 117, 101], [102, 97, 108, 115, 101]]
theorem okName_iff {n : List Nat} : okName n ↔ (decide (2 ≤ n.length) && decide (n.length ≤ 8) && n.all isLet && !decide (n ∈ WRDS)) = true := by
  simp [okName, WRDS, and_assoc]
/-- the names of one length -/
structure Nms (L : List (List Nat)) : Prop where
  ok : ∀ n ∈ L, okName n
  r : L.Pairwise fun a b => ltS a b = true
theorem Nms.sorted {L : List (List Nat)} (h : ∀ n ∈ L, okName n) (k : L.Nodup) : Nms (sortD ltS L) := ⟨fun n hn => h n ((mem_sortD n L).mp hn), sortS k⟩
def nm1 (b : Nat) : List (List Nat) := (List.range 6).map fun k => List.replicate (2 + k) b
theorem nm1_ok : ∀ b ∈ BASES, Nms (nm1 b) := by
  have h : (BASES.all fun b => (nm1 b).all fun n => (decide (2 ≤ n.length) && decide (n.length ≤ 8) && n.all isLet && !decide (n ∈ WRDS))) = true := by decide +kernel
  have h2 : ∀ b ∈ BASES, (nm1 b).Pairwise fun a b => ltS a b = true := by decide +kernel
  intro b hb
  refine ⟨fun n hn => okName_iff.mpr ?_, h2 b hb⟩
  rw [List.all_eq_true] at h
  have := h b hb
  rw [List.all_eq_true] at this
  exact this n hn
def nm2 (f c : Nat) : List (List Nat) := (List.range 6).map fun k => (WRDS ++ WRDS).getD (f + k) [] ++ [97 + c]
theorem nm2_ok : ∀ f < 8, ∀ c < 26, Nms (sortD ltS (nm2 f c)) := by
  have h : ((List.range 8).all fun f => (List.range 26).all fun c => decide (nm2 f c).Nodup && (nm2 f c).all fun n => (decide (2 ≤ n.length) && decide (n.length ≤ 8) && n.all isLet && !decide (n ∈ WRDS))) = true := by decide +kernel
  intro f hf c hc
  rw [List.all_eq_true] at h
  have := h f (List.mem_range.mpr hf)
  rw [List.all_eq_true] at this
  have := this c (List.mem_range.mpr hc)
  rw [Bool.and_eq_true, decide_eq_true_eq, List.all_eq_true] at this
  exact Nms.sorted (fun n hn => okName_iff.mpr (this.2 n hn)) this.1
def nmw (b a r c : Nat) : List Nat := List.replicate a b ++ [97 + c] ++ List.replicate r b
theorem nmw_ok : ∀ b ∈ BASES, ∀ a < 8, ∀ r < 8, 1 ≤ a + r → a + r ≤ 7 → ∀ c < 26, okName (nmw b a r c) := by
  have h : (BASES.all fun b => (List.range 8).all fun a => (List.range 8).all fun r => !(decide (1 ≤ a + r ∧ a + r ≤ 7)) || (List.range 26).all fun c => (decide (2 ≤ (nmw b a r c).length) && decide ((nmw b a r c).length ≤ 8) && (nmw b a r c).all isLet && !decide ((nmw b a r c) ∈ WRDS))) = true := by decide +kernel
  intro b hb a ha r hr h1 h7 c hc
  rw [List.all_eq_true] at h
  have := h b hb
  rw [List.all_eq_true] at this
  have := this a (List.mem_range.mpr ha)
  rw [List.all_eq_true] at this
  have := this r (List.mem_range.mpr hr)
  rw [decide_eq_true ⟨h1, h7⟩] at this
  simp only [Bool.not_true, Bool.false_or] at this
  rw [List.all_eq_true] at this
  exact okName_iff.mpr (this c (List.mem_range.mpr hc))
theorem nmw_inj {b a r c c' : Nat} (h : nmw b a r c = nmw b a r c') : c = c' := by
  unfold nmw at h
  rw [List.append_assoc, List.append_assoc] at h
  have := List.append_cancel_left h
  simp at this
  omega
end
end Pk
end
section
-- PuGen2
set_option linter.all false
set_option maxRecDepth 10000
/-! Names and tongues, run. -/
namespace Pk
open PySem
section
variable {s : Sh}
theorem mod_nat (i : Int) (d : Nat) (h : 0 < d) : ∃ n : Nat, i % (d : Int) = (n : Int) ∧ n < d := by
  have h0 : 0 ≤ i % (d : Int) := Int.emod_nonneg _ (by omega)
  have h1 : i % (d : Int) < d := Int.emod_lt_of_pos _ (by omega)
  exact ⟨(i % (d : Int)).toNat, by omega, by omega⟩
theorem c_law_names (k : Nat) (c : Int) : ∃ L, callN (k + 1) .law_names [.int c, .int 6] s = some (.lst (L.map .str), s) ∧ L.length = 6 ∧ Nms L := by
  obtain ⟨N, hN⟩ : ∃ N, c * 7129 % 1000033 = N := ⟨_, rfl⟩
  obtain ⟨b, hb, hab⟩ := at_base N
  obtain ⟨z, hz, hz7⟩ := mod_nat (N / 5) 7 (by decide)
  have hz : N / 5 % 7 = (z : Int) := hz
  have hbs : ¬ [98, 99, 100, 102, 103].length > 16777216 := by decide
  have h35 : N / 35 % 4 = 1 ∨ N / 35 % 4 = 2 ∨ (¬ N / 35 % 4 = 1 ∧ ¬ N / 35 % 4 = 2) := by omega
  have hab' : L2.atI [98, 99, 100, 102, 103] (N % 5) = some b := hab
  have hmul : ∀ i : Int, (0 ≤ i ∧ i < 100) → binD .mul (.str [b]) (.int i) = some (.str (List.replicate i.toNat b)) := fun i hi => by simp [hi]
  have r6 : rngL 0 6 = (List.range 6).map fun i => .int (0 + (i : Nat)) := rfl
  rcases h35 with h | h | ⟨h, h'⟩
  · refine ⟨nm1 b, call_rt rfl ?_, rfl, nm1_ok b hb⟩
    simp [b_law_names, hN, hab', hz, h]
    rw [ev_comp_m (e := fun i : Nat => .int (0 + (i : Nat))) (l := List.range 6) (fun k => .str (List.replicate (2 + k) b)) (by simp [r6, small?]) rfl (by simp) (fun i hi => ⟨_, rfl, by
      have := List.mem_range.mp hi
      have h1 : (0 : Int) ≤ 2 + i ∧ (2 : Int) + i < 100 := by omega
      have h2 : (2 + (i : Int)).toNat = 2 + i := by omega
      simp [h1, h2]⟩)]
    simp [nm1]
  · obtain ⟨f, hf, hf8⟩ := mod_nat (N / 140) 8 (by decide)
    have hf : N / 140 % 8 = (f : Int) := hf
    obtain ⟨e, he, he26⟩ := mod_nat (N / 1120) 26 (by decide)
    have he : N / 1120 % 26 = (e : Int) := he
    have hal := at_lets (N / 1120)
    rw [he] at hal
    have hal : L2.atI [97, 98, 99, 100, 101, 102, 103, 104, 105, 106, 107, 108, 109, 110, 111, 112, 113, 114, 115, 116, 117, 118, 119, 120, 121, 122] (e : Int) = some (97 + e) := hal
    refine ⟨sortD ltS (nm2 f e), call_rt rfl ?_, by rw [len_sortD]; rfl, nm2_ok f hf8 e he26⟩
    have hcmp : ∀ W2 : List D, W2 = (WRDS ++ WRDS).map .str → ∀ ρ : En, ρ[8]? = some (.p (.lst (WRDS.map .str))) → ρ[9]? = some (.p (.int f)) → ρ[10]? = some (.p (.str [97, 98, 99, 100, 101, 102, 103, 104, 105, 106, 107, 108, 109, 110, 111, 112, 113, 114, 115, 116, 117, 118, 119, 120, 121, 122])) → ρ[2]? = some (.p (.int N)) → ∀ i < 6, ρ[7]? = some (.p (.int (0 + (i : Nat)))) →
        evE (callN k) (.bin .add (.ix (.bin .add (.var 8) (.var 8)) (.bin .add (.var 9) (.var 7))) (.ix (.var 10) (.bin .mod (.bin .fdiv (.var 2) (.int 1120)) (.int 26)))) ρ s = some (.str ((WRDS ++ WRDS).getD (f + i) [] ++ [97 + e]), s) := by
      rintro W2 rfl ρ h8 h9 h10 h2 i hi h7
      have e1 : (f : Int) + (0 + (i : Nat)) = ((f + i : Nat) : Int) := by omega
      have e2 : (WRDS.map D.str ++ WRDS.map D.str)[f + i]? = some (.str ((WRDS ++ WRDS).getD (f + i) [])) := by
        rw [← List.map_append, List.getElem?_map, List.getElem?_eq_getElem (show f + i < (WRDS ++ WRDS).length by simp [WRDS]; omega)]
        simp [List.getD_eq_getElem?_getD, List.getElem?_eq_getElem (show f + i < (WRDS ++ WRDS).length by simp [WRDS]; omega)]
      have e3 : ((WRDS ++ WRDS).getD (f + i) []).length ≤ 10 := by
        have : ∀ j < 16, ((WRDS ++ WRDS).getD j []).length ≤ 10 := by decide
        exact this _ (by omega)
      have e4 : (WRDS.map D.str).length = 8 := rfl
      generalize (WRDS ++ WRDS).getD (f + i) [] = wd at *
      generalize WRDS.map D.str = WD at *
      have e5 : wd.length + 1 ≤ 16777216 := by omega
      have e6 : wd.length ≤ 16777215 := by omega
      simp [h8, h9, h10, h2, h7, e4, he, hal]
      rw [show (f : Int) + i = ((f + i : Nat) : Int) by omega, atI_nat, e2]
      simp [e5, e6]
    simp [b_law_names, hN, hab', hz, h, hf]
    rw [ev_comp_m (e := fun i : Nat => .int (0 + (i : Nat))) (l := List.range 6) (fun i => .str ((WRDS ++ WRDS).getD (f + i) [] ++ [97 + e])) (by simp [r6, small?]) rfl (by simp) (fun i hi => ⟨_, rfl, hcmp _ rfl _ rfl rfl rfl rfl i (List.mem_range.mp hi) rfl⟩)]
    have := b1_sort_s (nm2 f e) (by simp [nm2])
    have e9 : (nm2 f e).map D.str = (List.range 6).map fun i => .str ((WRDS ++ WRDS).getD (f + i) [] ++ [97 + e]) := by
      unfold nm2
      rw [List.map_map]
      rfl
    rw [e9] at this
    simp only [this]
    rfl
  · obtain ⟨a, ha, hasz⟩ := mod_nat (N / 105) (2 + z) (by omega)
    have ha : N / 105 % (2 + (z : Int)) = (a : Int) := by simpa using ha
    obtain ⟨M, hM⟩ : ∃ M, N / 840 = M := ⟨_, rfl⟩
    obtain ⟨sg, hsg⟩ : ∃ sg : Nat → Nat, ∀ i, sg i = ((M + 5 * (i : Nat)) % 26).toNat := ⟨_, fun _ => rfl⟩
    have hsg26 : ∀ i, sg i < 26 := fun i => by rw [hsg]; omega
    have hal : ∀ i : Nat, L2.atI [97, 98, 99, 100, 101, 102, 103, 104, 105, 106, 107, 108, 109, 110, 111, 112, 113, 114, 115, 116, 117, 118, 119, 120, 121, 122] ((M + 5 * (i : Nat)) % 26) = some (97 + sg i) := fun i => by
      rw [hsg]
      exact at_lets _
    have hpos : (0 : Int) < 2 + z := by omega
    have hL : Nms (sortD ltS ((List.range 6).map fun i => nmw b a (1 + z - a) (sg i))) := by
      refine Nms.sorted (fun n hn => ?_) ?_
      · obtain ⟨i, _, rfl⟩ := List.mem_map.mp hn
        exact nmw_ok b hb a (by omega) (1 + z - a) (by omega) (by omega) (by omega) (sg i) (hsg26 i)
      · unfold List.Nodup
        rw [List.pairwise_map]
        refine List.Pairwise.imp_of_mem (fun {i j} hi hj hij e => ?_) (List.pairwise_lt_range (n := 6))
        have := nmw_inj e
        rw [hsg, hsg] at this
        have hi := List.mem_range.mp hi
        have hj := List.mem_range.mp hj
        omega
    refine ⟨_, call_rt rfl ?_, ?_, hL⟩
    · simp [b_law_names, hN, hab', hz, h, h', ha, hpos]
      refine run_pre (fun i : Nat => .int (0 + (i : Nat))) (fun pre ρ => ∃ x5 x6 x7 : Sl, ρ = [.p (.int c), .p (.int 6), .p (.int N), .p (.str [b]), .p (.int (2 + z)), .p (.int a), .o (.lst ((pre.map fun i => nmw b a (1 + z - a) (sg i)).map .str)), x5, .un, .un, .un, x7]) (List.range 6) (by simp [r6, small?]) ⟨.un, .un, .un, rfl⟩ (fun pre i post hpre ρ ⟨x5, x6, x7, e⟩ => ?_) ?_
      · subst e
        have hpl := len_pre hpre
        rw [List.length_range] at hpl
        refine ⟨_, rfl, ?_⟩
        obtain ⟨acc, hacc⟩ : ∃ acc, (pre.map fun i => nmw b a (1 + z - a) (sg i)).map D.str = acc := ⟨_, rfl⟩
        have hal' : acc.length < 16777216 := by rw [← hacc]; simp; omega
        refine ⟨[.p (.int c), .p (.int 6), .p (.int N), .p (.str [b]), .p (.int (2 + z)), .p (.int a), .o (.lst (acc ++ [.str (nmw b a (1 + z - a) (sg i))])), .p (.int (0 + (i : Nat))), .un, .un, .un, .p (.str [97 + sg i])], ?_, .p (.int (0 + (i : Nat))), .un, .p (.str [97 + sg i]), by rw [← hacc]; simp⟩
        rw [hacc]
        clear hacc
        have h0i : (0 : Int) + (i : Nat) = (i : Int) := by omega
        rw [h0i]
        have m1 : (0 : Int) ≤ a ∧ (a : Int) < 100 := by omega
        have m2 : (0 : Int) ≤ 2 + z - 1 - a ∧ (2 + z - 1 - a : Int) < 100 := by omega
        have m3 : (2 + (z : Int) - 1 - a).toNat = 1 + z - a := by omega
        have m4 : a + 1 ≤ 16777216 := by omega
        have m5 : a + 1 + (1 + z - a) ≤ 16777216 := by omega
        have m6 : a + (1 + (1 + z - a)) ≤ 16777216 := by omega
        have m7 : a ≤ 16777215 := by omega
        have hali := hal i
        unfold nmw
        have m8 : (a : Int) ≤ 2 + z - 1 := by omega
        generalize 97 + sg i = ch at *
        have hM' : N / 840 = M := hM
        simp [nmw, hM', hali, m1, m2, m3, m4, m5, m6, m7, m8, hal']
      · rintro ρ ⟨x5, x6, x7, rfl⟩
        have := b1_sort_s ((List.range 6).map fun i => nmw b a (1 + z - a) (sg i)) (by simp)
        generalize ((List.range 6).map fun i => nmw b a (1 + z - a) (sg i)).map D.str = acc at *
        simp [bor, this]
    · rw [len_sortD]
      simp
end
end Pk
end
section
-- PuGen3
set_option linter.all false
set_option maxRecDepth 10000
/-! Tongues and worlds drawn, run. -/
namespace Pk
open PySem
section
variable {s : Sh}
/-- a tongue -/
structure Tn (A B : List (List Nat)) : Prop where
  la : A.length ≤ 3
  lb : B.length ≤ 3
  a : Nms A
  b : Nms B
def dTn (A B : List (List Nat)) : D := .tup [.tup (A.map .str), .tup (B.map .str)]
theorem Nms.sub {L M : List (List Nat)} (h : Nms L) (k : List.Sublist M L) : Nms M := ⟨fun n hn => h.ok n (k.subset hn), h.r.sublist k⟩
theorem c_law_tongue (k : Nat) (c : Int) : ∃ A B, callN (k + 2) .law_tongue [.int c] s = some (dTn A B, s) ∧ Tn A B := by
  obtain ⟨L, h1, h2, h3⟩ := c_law_names (s := s) k c
  obtain ⟨N, hN⟩ : ∃ N, c * 523 % 10007 = N := ⟨_, rfl⟩
  obtain ⟨x, hx, hx4⟩ := mod_nat N 4 (by decide)
  obtain ⟨f, hf, hf3⟩ := mod_nat (N / 16) 3 (by decide)
  obtain ⟨y, hy, hy4⟩ := mod_nat (N / 4) 4 (by decide)
  have hx : N % 4 = (x : Int) := hx
  have hf : N / 16 % 3 = (f : Int) := hf
  have hy : N / 4 % 4 = (y : Int) := hy
  refine ⟨L.take x, (L.drop f).take y, call_rt rfl ?_, ⟨by simp; omega, by simp; omega, h3.sub (List.take_sublist _ _), h3.sub ((List.take_sublist _ _).trans (List.drop_sublist _ _))⟩⟩
  have e1 := cut_to (L.map D.str) x
  have e2 := cut_both (L.map D.str) f (f + y)
  rw [Nat.add_sub_cancel_left] at e2
  rw [← List.map_take] at e1
  rw [← List.map_drop, ← List.map_take] at e2
  have e3 : ((f + y : Nat) : Int) = (f : Int) + y := by omega
  rw [e3] at e2
  unfold dTn
  generalize L.map D.str = LD at *
  generalize (L.take x).map D.str = LA at *
  generalize ((L.drop f).take y).map D.str = LB at *
  simp [b_law_tongue, h1, hN, hx, hf, hy, e1, e2]
/-! ### points by bits -/
structure PtsOk (n : Int) (xs : List Int) : Prop where
  r : xs.Pairwise fun a b => ltI a b = true
  i : ∀ x ∈ xs, 0 ≤ x ∧ x < n
structure PrsOk (n : Int) (ps : PS) : Prop where
  r : Rise ps
  i : ∀ p ∈ ps, (0 ≤ p.1 ∧ p.1 < n) ∧ 0 ≤ p.2 ∧ p.2 < n
theorem PtsOk.len {n : Int} {xs : List Int} (h : PtsOk n xs) (h8 : n ≤ 8) : xs.length ≤ 8 := by
  refine few 8 xs (h.r.imp fun {a b} l e => ?_) fun x hx => ?_
  · subst e
    simp [ltI] at l
  · have := h.i x hx
    omega
theorem PrsOk.len {n : Int} {ps : PS} (h : PrsOk n ps) (h8 : n ≤ 8) : ps.length ≤ 64 := by
  have := few 64 (ps.map fun p => p.1 * 8 + p.2) (by
    unfold List.Nodup
    rw [List.pairwise_map]
    refine List.Pairwise.imp_of_mem (fun {p q} hp hq l e => ?_) h.r
    have h1 := h.i p hp
    have h2 := h.i q hq
    rw [ltP_iff] at l
    omega) fun x hx => by
    obtain ⟨p, hp, rfl⟩ := List.mem_map.mp hx
    have h1 := h.i p hp
    constructor
    · omega
    · show _ < ((64 : Nat) : Int)
      omega
  simpa using this
theorem c_law_some (k : Nat) (bits n : Int) (h0 : 0 ≤ n) (h8 : n ≤ 8) : ∃ xs, callN (k + 1) .law_some [.int bits, .int n] s = some (.tup (xs.map .int), s) ∧ PtsOk n xs := by
  have key : ∃ d, exSs (callN k) (body .law_some) (startE .law_some [.int bits, .int n]) s = some (.rt d s) ∧ ∃ xs, d = .tup (xs.map .int) ∧ PtsOk n xs := by
    simp [b_law_some]
    refine run_preR .int (fun pre ρ => ∃ (b : Int) (xs : List Int) (x3 : Sl), ρ = [.p (.int b), .p (.int n), .o (.lst (xs.map .int)), x3] ∧ xs.length ≤ pre.length ∧ PtsOk pre.length xs) (rngI n) (by simp [rng_I, smallOf h0 (by omega)]) ⟨bits, [], .un, rfl, by simp, ⟨by simp, by simp⟩⟩ (fun pre x post hpre ρ ⟨b, xs, x3, e, hl, hp⟩ => ?_) ?_
    · subst e
      have hx := rngI_at hpre
      have hlen := len_pre hpre
      rw [rngI_len] at hlen
      refine ⟨_, rfl, ?_⟩
      obtain ⟨acc, hacc⟩ : ∃ acc, xs.map D.int = acc := ⟨_, rfl⟩
      have hal : acc.length < 16777216 := by rw [← hacc]; simp; omega
      by_cases hb : b % 2 = 1
      · refine ⟨[.p (.int (b / 2)), .p (.int n), .o (.lst (acc ++ [.int x])), .p (.int x)], by simp [hb, hacc, hal], b / 2, xs ++ [x], .p (.int x), by simp [← hacc], by simp; omega, ?_, ?_⟩
        · rw [List.pairwise_append]
          refine ⟨hp.r, by simp, fun a ha c hc => ?_⟩
          rw [List.mem_singleton.mp hc, ltI_iff]
          have := hp.i a ha
          omega
        · intro y hy
          rcases List.mem_append.mp hy with hy | hy
          · have := hp.i y hy
            simp; omega
          · rw [List.mem_singleton.mp hy]
            simp; omega
      · refine ⟨[.p (.int (b / 2)), .p (.int n), .o (.lst acc), .p (.int x)], by simp [hb, hacc, hal], b / 2, xs, .p (.int x), by simp [← hacc], by simp; omega, hp.r, fun y hy => ?_⟩
        have := hp.i y hy
        simp; omega
    · rintro ρ ⟨b, xs, x3, rfl, hl, hp⟩
      rw [rngI_len] at hp
      refine ⟨_, by simp, xs, rfl, hp.r, fun x hx => ?_⟩
      have := hp.i x hx
      omega
  obtain ⟨d, h1, xs, rfl, h2⟩ := key
  exact ⟨xs, call_rt rfl h1, h2⟩
/-- pairs ahead of (a, b) -/
structure Ahead (n a b : Int) (ps : PS) : Prop where
  r : Rise ps
  i : ∀ p ∈ ps, (0 ≤ p.1 ∧ p.1 < n) ∧ (0 ≤ p.2 ∧ p.2 < n) ∧ (p.1 < a ∨ p.1 = a ∧ p.2 < b)
theorem Ahead.snoc {n a b : Int} {ps : PS} (h : Ahead n a b ps) (ha : 0 ≤ a ∧ a < n) (hb : 0 ≤ b ∧ b < n) : Ahead n a (b + 1) (ps ++ [(a, b)]) := by
  refine ⟨?_, fun p hp => ?_⟩
  · unfold Rise
    rw [List.pairwise_append]
    refine ⟨h.r, by simp, fun p hp q hq => ?_⟩
    rw [List.mem_singleton.mp hq, ltP_iff]
    exact (h.i p hp).2.2
  · rcases List.mem_append.mp hp with hp | hp
    · have := h.i p hp
      omega
    · rw [List.mem_singleton.mp hp]
      exact ⟨ha, hb, .inr ⟨rfl, by show b < b + 1; omega⟩⟩
theorem Ahead.on {n a b : Int} {ps : PS} (h : Ahead n a b ps) : Ahead n a (b + 1) ps := ⟨h.r, fun p hp => by
  have := h.i p hp
  omega⟩
theorem Ahead.row {n a b : Int} {ps : PS} (h : Ahead n a b ps) : Ahead n (a + 1) 0 ps := ⟨h.r, fun p hp => by
  have := h.i p hp
  omega⟩
theorem Ahead.ok {n a b : Int} {ps : PS} (h : Ahead n a b ps) : PrsOk n ps := ⟨h.r, fun p hp => ⟨(h.i p hp).1, (h.i p hp).2.1⟩⟩
theorem c_law_pairs (k : Nat) (bits n : Int) (h0 : 0 ≤ n) (h8 : n ≤ 8) : ∃ ps, callN (k + 1) .law_pairs [.int bits, .int n] s = some (dP ps, s) ∧ PrsOk n ps := by
  have hsm := smallOf h0 (show n ≤ 1000 by omega)
  have key : ∃ d, exSs (callN k) (body .law_pairs) (startE .law_pairs [.int bits, .int n]) s = some (.rt d s) ∧ ∃ ps, d = dP ps ∧ PrsOk n ps := by
    simp [b_law_pairs]
    refine run_preR .int (fun pre ρ => ∃ (b : Int) (ps : PS) (x3 x4 : Sl), ρ = [.p (.int b), .p (.int n), .o (.lst (ps.map ofPair)), x3, x4] ∧ Ahead n pre.length 0 ps) (rngI n) (by simp [rng_I, hsm]) ⟨bits, [], .un, .un, rfl, ⟨by simp [Rise], by simp⟩⟩ (fun pre x post hpre ρ ⟨b, ps, x3, x4, e, hp⟩ => ?_) ?_
    · subst e
      have hx := rngI_at hpre
      have hxr := mem_rngI.mp (show x ∈ rngI n by rw [hpre]; simp)
      refine ⟨_, rfl, ?_⟩
      refine run_preE .int (fun pre' ρ => ∃ (b : Int) (ps : PS) (x4 : Sl), ρ = [.p (.int b), .p (.int n), .o (.lst (ps.map ofPair)), .p (.int x), x4] ∧ Ahead n x pre'.length ps) (rngI n) (by simp [rng_I, hsm]) ⟨b, ps, x4, rfl, by rw [hx]; exact hp⟩ (fun pre' y post' hpre' ρ ⟨b, ps, x4, e, hp⟩ => ?_) ?_
      · subst e
        have hy := rngI_at hpre'
        have hyr := mem_rngI.mp (show y ∈ rngI n by rw [hpre']; simp)
        refine ⟨_, rfl, ?_⟩
        have hal : (ps.map ofPair).length < 16777216 := by
          have := hp.ok.len h8
          simp; omega
        obtain ⟨acc, hacc⟩ : ∃ acc, ps.map ofPair = acc := ⟨_, rfl⟩
        rw [hacc] at hal
        have e1 : (((pre' ++ [y]).length : Nat) : Int) = y + 1 := by rw [List.length_append, hy]; simp
        rw [← hy] at hp
        by_cases hb : b % 2 = 1
        · refine ⟨[.p (.int (b / 2)), .p (.int n), .o (.lst (acc ++ [ofPair (x, y)])), .p (.int x), .p (.int y)], by simp [hb, hacc, hal], b / 2, ps ++ [(x, y)], .p (.int y), by simp [← hacc], ?_⟩
          rw [e1]
          exact hp.snoc hxr hyr
        · refine ⟨[.p (.int (b / 2)), .p (.int n), .o (.lst acc), .p (.int x), .p (.int y)], by simp [hb, hacc, hal], b / 2, ps, .p (.int y), by simp [← hacc], ?_⟩
          rw [e1]
          exact hp.on
      · rintro ρ ⟨b, ps, x4, rfl, hp⟩
        refine ⟨_, rfl, b, ps, .p (.int x), x4, rfl, ?_⟩
        have e1 : (((pre ++ [x]).length : Nat) : Int) = x + 1 := by rw [List.length_append, hx]; simp
        rw [e1]
        exact hp.row
    · rintro ρ ⟨b, ps, x3, x4, rfl, hp⟩
      exact ⟨_, by simp; rfl, ps, rfl, hp.ok⟩
  obtain ⟨d, h1, ps, rfl, h2⟩ := key
  exact ⟨ps, call_rt rfl h1, h2⟩
end
end Pk
end
section
-- PuGen4
set_option linter.all false
set_option maxRecDepth 10000
/-! Worlds drawn, run. -/
namespace Pk
open PySem
section
variable {s : Sh}
/-- a world of this tongue, so many points -/
structure Gp (n : Int) (A B : List (List Nat)) (w : W) : Prop where
  hn : w.n = n
  a : w.ms.map Prod.fst = A
  b : w.as.map Prod.fst = B
  m : ∀ m ∈ w.ms, PtsOk n m.2
  p : ∀ m ∈ w.as, PrsOk n m.2
theorem Gp.gd {n : Int} {A B : List (List Nat)} {w : W} (h : Gp n A B w) (t : Tn A B) (h1 : 1 ≤ n) (h8 : n ≤ 8) : GdW w := by
  have e1 := congrArg List.length h.a
  have e2 := congrArg List.length h.b
  rw [List.length_map] at e1 e2
  have la := t.la
  have lb := t.lb
  refine ⟨by rw [h.hn]; exact h1, by rw [h.hn]; exact h8, by omega, by omega, fun m hm => t.a.ok _ ?_, fun m hm => t.b.ok _ ?_, by rw [h.a]; exact t.a.r, by rw [h.b]; exact t.b.r, fun m hm => (h.m m hm).r, fun m hm => (h.p m hm).r, fun m hm => by rw [h.hn]; exact (h.m m hm).i, fun m hm => by rw [h.hn]; exact (h.p m hm).i⟩
  · rw [← h.a]; exact List.mem_map.mpr ⟨m, hm, rfl⟩
  · rw [← h.b]; exact List.mem_map.mpr ⟨m, hm, rfl⟩
theorem take_succ_of {α : Type} {l : List α} {i : Nat} (h : i < l.length) : l.take (i + 1) = l.take i ++ [l[i]] := by
  rw [List.take_append_getElem h]
theorem c_law_world (k : Nat) (ns : List Int) (at_ n : Int) (A B : List (List Nat)) (t : Tn A B) (ha : 0 ≤ at_) (h0 : 0 ≤ n) (h8 : n ≤ 8) : ∃ w, callN (k + 2) .law_world [.scr ns, .int at_, .int n, dTn A B] s = some (dW w, s) ∧ Gp n A B w := by
  have la := t.la
  have lb := t.lb
  have key : ∃ d, exSs (callN (k + 1)) (body .law_world) (startE .law_world [.scr ns, .int at_, .int n, dTn A B]) s = some (.rt d s) ∧ ∃ w, d = dW w ∧ Gp n A B w := by
    have i0 : ixD (dTn A B) (.int 0) = some (.tup (A.map .str)) := by simp [dTn]
    have i1 : ixD (dTn A B) (.int 1) = some (.tup (B.map .str)) := by simp [dTn]
    have sA : small? (A.length : Int) = true := smallOf (by omega) (by omega)
    have sB : small? (B.length : Int) = true := smallOf (by omega) (by omega)
    generalize dTn A B = T at *
    show ∃ d, exSs (callN (k + 1)) b_law_world [.p (.scr ns), .p (.int at_), .p (.int n), .p T, .un, .un, .un, .un] s = some (.rt d s) ∧ _
    unfold b_law_world
    rw [exSs_nx (ρ' := [.p (.scr ns), .p (.int at_), .p (.int n), .p T, .o (.lst []), .un, .un, .un]) (s' := s) (by simp)]
    refine run_preR .int (fun pre ρ => ∃ (ms : List (List Nat × List Int)) (x5 : Sl), ρ = [.p (.scr ns), .p (.int at_), .p (.int n), .p T, .o (.lst (ms.map dM)), x5, .un, .un] ∧ ms.map Prod.fst = A.take pre.length ∧ ∀ m ∈ ms, PtsOk n m.2) (rngI A.length) (by simp [i0, sA, rng_I]) ⟨[], .un, rfl, rfl, by simp⟩ (fun pre x post hpre ρ ⟨ms, x5, e, h1, h2⟩ => ?_) ?_
    · subst e
      have hx := rngI_at hpre
      have hlen := len_pre hpre
      rw [rngI_len] at hlen
      have hlA : pre.length < A.length := by omega
      refine ⟨_, rfl, ?_⟩
      obtain ⟨c, hc⟩ := c_cell (s := s) k ns (at_ + x) (by omega)
      obtain ⟨xs, hxs, hok⟩ := c_law_some (s := s) k (c * 167 % 2 ^ 8) n h0 h8
      have hix : L2.atI (A.map D.str) x = some (.str A[pre.length]) := by
        rw [hx, atI_nat, List.getElem?_map, List.getElem?_eq_getElem hlA]
        rfl
      obtain ⟨acc, hacc⟩ : ∃ acc, ms.map dM = acc := ⟨_, rfl⟩
      have hal : acc.length < 16777216 := by
        have := congrArg List.length h1
        simp at this
        rw [← hacc]; simp; omega
      rw [hacc]
      refine ⟨[.p (.scr ns), .p (.int at_), .p (.int n), .p T, .o (.lst (acc ++ [.tup [.str A[pre.length], .tup (xs.map .int)]])), .p (.int x), .un, .un], ?_, ms ++ [(A[pre.length], xs)], .p (.int x), by simp [← hacc, dM], ?_, ?_⟩
      · generalize A[pre.length] = nm at *
        generalize xs.map D.int = X at *
        generalize A.map D.str = AD at *
        simp at hxs
        simp [i0, hc, hxs, hix, hal]
      · rw [List.map_append, h1, List.length_append, List.length_singleton, take_succ_of hlA]
        rfl
      · intro m hm
        rcases List.mem_append.mp hm with hm | hm
        · exact h2 m hm
        · rw [List.mem_singleton.mp hm]
          exact hok
    · rintro ρ ⟨ms, x5, rfl, h1, h2⟩
      rw [rngI_len, Int.toNat_natCast, List.take_length] at h1
      rw [exSs_nx (ρ' := [.p (.scr ns), .p (.int at_), .p (.int n), .p T, .o (.lst (ms.map dM)), x5, .o (.lst []), .un]) (s' := s) (by simp)]
      refine run_preR .int (fun pre ρ => ∃ (as : List (List Nat × PS)) (x5 x7 : Sl), ρ = [.p (.scr ns), .p (.int at_), .p (.int n), .p T, .o (.lst (ms.map dM)), x5, .o (.lst (as.map dA)), x7] ∧ as.map Prod.fst = B.take pre.length ∧ ∀ m ∈ as, PrsOk n m.2) (rngI B.length) (by simp [i1, sB, rng_I]) ⟨[], x5, .un, rfl, rfl, by simp⟩ (fun pre x post hpre ρ ⟨as, x5, x7, e, h3, h4⟩ => ?_) ?_
      · subst e
        have hx := rngI_at hpre
        have hlen := len_pre hpre
        rw [rngI_len] at hlen
        have hlB : pre.length < B.length := by omega
        refine ⟨_, rfl, ?_⟩
        obtain ⟨c, hc⟩ := c_cell (s := s) k ns (at_ + 3 + x) (by omega)
        obtain ⟨xs, hxs, hok⟩ := c_law_pairs (s := s) k (c * 11400714819323198485 % 2 ^ 64) n h0 h8
        have hix : L2.atI (B.map D.str) x = some (.str B[pre.length]) := by
          rw [hx, atI_nat, List.getElem?_map, List.getElem?_eq_getElem hlB]
          rfl
        obtain ⟨acc, hacc⟩ : ∃ acc, as.map dA = acc := ⟨_, rfl⟩
        have hal : acc.length < 16777216 := by
          have := congrArg List.length h3
          simp at this
          rw [← hacc]; simp; omega
        rw [hacc]
        refine ⟨[.p (.scr ns), .p (.int at_), .p (.int n), .p T, .o (.lst (ms.map dM)), .p (.int x), .o (.lst (acc ++ [.tup [.str B[pre.length], dP xs]])), .p (.int (c * 11400714819323198485 % 2 ^ 64))], ?_, as ++ [(B[pre.length], xs)], .p (.int x), .p (.int (c * 11400714819323198485 % 2 ^ 64)), by simp [← hacc, dA, dP], ?_, ?_⟩
        · generalize B[pre.length] = nm at *
          generalize dP xs = X at *
          generalize B.map D.str = AD at *
          generalize ms.map dM = MD at *
          simp at hxs
          simp [i1, hc, hxs, hix, hal]
        · rw [List.map_append, h3, List.length_append, List.length_singleton, take_succ_of hlB]
          rfl
        · intro m hm
          rcases List.mem_append.mp hm with hm | hm
          · exact h4 m hm
          · rw [List.mem_singleton.mp hm]
            exact hok
      · rintro ρ ⟨as, x5, x7, rfl, h3, h4⟩
        rw [rngI_len, Int.toNat_natCast, List.take_length] at h3
        refine ⟨dW ⟨n, ms, as⟩, ?_, ⟨n, ms, as⟩, rfl, rfl, h1, h3, h2, h4⟩
        unfold dW
        generalize ms.map dM = MD at *
        generalize as.map dA = AD at *
        simp
  obtain ⟨d, h1, w, rfl, h2⟩ := key
  exact ⟨w, call_rt rfl h1, h2⟩
end
end Pk
end
section
-- PuGen5
set_option linter.all false
set_option maxRecDepth 10000
/-! Worlds shaped, run. -/
namespace Pk
open PySem
section
variable {s : Sh}
theorem c_law_even (k : Nat) (N n : Int) (h1 : 1 ≤ n) (h8 : n ≤ 8) : ∃ ps, callN (k + 1) .law_even [.int N, .int n] s = some (dP ps, s) ∧ PrsOk n ps := by
  have hsm := smallOf (show 0 ≤ n by omega) (show n ≤ 1000 by omega)
  have hpos : 0 < n := by omega
  have key : ∃ d, exSs (callN k) b_law_even [.p (.int N), .p (.int n), .un, .un, .un, .un, .un, .un, .un] s = some (.rt d s) ∧ ∃ ps, d = dP ps ∧ PrsOk n ps := by
    obtain ⟨st, hst⟩ : ∃ st, ((rngI n).filter fun x => decide (Builtin.bitAnd (N / 2 ^ x.toNat) 1 = 1)) = st := ⟨_, rfl⟩
    have hcmp : evE (callN k) (.comp true (.var 7) (.one 7) (.r1 (.var 1)) (.cmp .eq (.bin .land (.bin .shr (.var 0) (.var 7)) (.int 1)) (.int 1))) [.p (.int N), .p (.int n), .un, .un, .un, .un, .un, .un, .un] s = some (.lst (st.map .int), s) := by
      rw [← hst]
      refine ev_comp_f (e := .int) (l := rngI n) .int (fun x => decide (Builtin.bitAnd (N / 2 ^ x.toNat) 1 = 1)) (by simp [rng_I, hsm]) rfl (by rw [rngI_len]; omega) (fun x hx => ⟨_, rfl, ?_, fun _ => by simp⟩)
      have := mem_rngI.mp hx
      simp [this.1]
    unfold b_law_even
    rw [exSs_nx (ρ' := [.p (.int N), .p (.int n), .p (.lst (st.map .int)), .un, .un, .un, .un, .un, .un]) (s' := s) (by simp [hcmp])]
    rw [exSs_nx (ρ' := [.p (.int N), .p (.int n), .p (.lst (st.map .int)), .p (.int (N / 16 % 2)), .un, .un, .un, .un, .un]) (s' := s) (by simp)]
    rw [exSs_nx (ρ' := [.p (.int N), .p (.int n), .p (.lst (st.map .int)), .p (.int (N / 16 % 2)), .o (.lst []), .un, .un, .un, .un]) (s' := s) (by simp)]
    refine run_preR .int (fun pre ρ => ∃ (ps : PS) (x5 x6 x8 : Sl), ρ = [.p (.int N), .p (.int n), .p (.lst (st.map .int)), .p (.int (N / 16 % 2)), .o (.lst (ps.map ofPair)), x5, x6, .un, x8] ∧ Ahead n pre.length 0 ps) (rngI n) (by simp [rng_I, hsm]) ⟨[], .un, .un, .un, rfl, ⟨by simp [Rise], by simp⟩⟩ (fun pre x post hpre ρ ⟨ps, x5, x6, x8, e, hp⟩ => ?_) ?_
    · subst e
      have hx := rngI_at hpre
      have hxr := mem_rngI.mp (show x ∈ rngI n by rw [hpre]; simp)
      refine ⟨_, rfl, ?_⟩
      refine run_preE .int (fun pre' ρ => ∃ (ps : PS) (x6 x8 : Sl), ρ = [.p (.int N), .p (.int n), .p (.lst (st.map .int)), .p (.int (N / 16 % 2)), .o (.lst (ps.map ofPair)), .p (.int x), x6, .un, x8] ∧ Ahead n x pre'.length ps) (rngI n) (by simp [rng_I, hsm]) ⟨ps, x6, x8, rfl, by rw [hx]; exact hp⟩ (fun pre' y post' hpre' ρ ⟨ps, x6, x8, e, hp⟩ => ?_) ?_
      · subst e
        have hy := rngI_at hpre'
        have hyr := mem_rngI.mp (show y ∈ rngI n by rw [hpre']; simp)
        refine ⟨_, rfl, ?_⟩
        have hal : (ps.map ofPair).length < 16777216 := by
          have := hp.ok.len h8
          simp; omega
        obtain ⟨acc, hacc⟩ : ∃ acc, ps.map ofPair = acc := ⟨_, rfl⟩
        rw [hacc] at hal
        have e1 : (((pre' ++ [y]).length : Nat) : Int) = y + 1 := by rw [List.length_append, hy]; simp
        rw [← hy] at hp
        have hcond : ∃ C : Bool, evE (callN k) (.or2 (.cmp .isin (.var 8) (.var 2)) (.and2 (.cmp .eq (.var 3) (.int 1)) (.cmp .isin (.bin .mod (.bin .sub (.var 5) (.var 6)) (.var 1)) (.var 2)))) [.p (.int N), .p (.int n), .p (.lst (st.map .int)), .p (.int (N / 16 % 2)), .o (.lst acc), .p (.int x), .p (.int y), .un, .p (.int ((y - x) % n))] s = some (.bl C, s) := by
          by_cases m1 : (y - x) % n ∈ st <;> by_cases m2 : N / 16 % 2 = 1 <;> by_cases m3 : (x - y) % n ∈ st <;> simp [m1, m2, m3, hpos]
        obtain ⟨C, hC⟩ := hcond
        rw [hacc]
        show ∃ ρ', exSs (callN k) _ [.p (.int N), .p (.int n), .p (.lst (st.map .int)), .p (.int (N / 16 % 2)), .o (.lst acc), .p (.int x), .p (.int y), .un, x8] s = _ ∧ _
        rw [exSs_nx (ρ' := [.p (.int N), .p (.int n), .p (.lst (st.map .int)), .p (.int (N / 16 % 2)), .o (.lst acc), .p (.int x), .p (.int y), .un, .p (.int ((y - x) % n))]) (s' := s) (by simp [hpos])]
        cases C with
        | true =>
          rw [exSs_nx (ρ' := [.p (.int N), .p (.int n), .p (.lst (st.map .int)), .p (.int (N / 16 % 2)), .o (.lst (acc ++ [ofPair (x, y)])), .p (.int x), .p (.int y), .un, .p (.int ((y - x) % n))]) (s' := s) (by
            rw [exS.eq_def]
            simp only [hC]
            simp [hal])]
          refine ⟨_, rfl, ps ++ [(x, y)], .p (.int y), .p (.int ((y - x) % n)), by simp [← hacc], ?_⟩
          rw [e1]
          exact hp.snoc hxr hyr
        | false =>
          rw [exSs_nx (ρ' := [.p (.int N), .p (.int n), .p (.lst (st.map .int)), .p (.int (N / 16 % 2)), .o (.lst acc), .p (.int x), .p (.int y), .un, .p (.int ((y - x) % n))]) (s' := s) (by
            rw [exS.eq_def]
            simp only [hC]
            rfl)]
          refine ⟨_, rfl, ps, .p (.int y), .p (.int ((y - x) % n)), by simp [← hacc], ?_⟩
          rw [e1]
          exact hp.on
      · rintro ρ ⟨ps, x6, x8, rfl, hp⟩
        refine ⟨_, rfl, ps, .p (.int x), x6, x8, rfl, ?_⟩
        have e1 : (((pre ++ [x]).length : Nat) : Int) = x + 1 := by rw [List.length_append, hx]; simp
        rw [e1]
        exact hp.row
    · rintro ρ ⟨ps, x5, x6, x8, rfl, hp⟩
      exact ⟨_, by simp; rfl, ps, rfl, hp.ok⟩
  obtain ⟨d, h1, ps, rfl, h2⟩ := key
  exact ⟨ps, call_rt rfl h1, h2⟩
theorem c_law_shaped (k : Nat) (ns : List Int) (at_ n : Int) (A B : List (List Nat)) (t : Tn A B) (ha : 0 ≤ at_) (h1 : 1 ≤ n) (h8 : n ≤ 8) : ∃ w, callN (k + 3) .law_shaped [.scr ns, .int at_, .int n, dTn A B] s = some (dW w, s) ∧ Gp n A B w := by
  obtain ⟨w, hw, g⟩ := c_law_world (s := s) k ns at_ n A B t ha (by omega) h8
  obtain ⟨c, hc⟩ := c_cell (s := s) (k + 1) ns (at_ + 6) (by omega)
  obtain ⟨N, hN⟩ : ∃ N, c * 1283 % 100003 = N := ⟨_, rfl⟩
  have e1 := congrArg List.length g.a
  have e2 := congrArg List.length g.b
  rw [List.length_map] at e1 e2
  have la := t.la
  have lb := t.lb
  have sB : small? (w.as.length : Int) = true := smallOf (by omega) (by omega)
  have key : ∃ d, exSs (callN (k + 2)) b_law_shaped [.p (.scr ns), .p (.int at_), .p (.int n), .p (dTn A B), .un, .un, .un, .un, .un, .un, .un, .un, .un] s = some (.rt d s) ∧ ∃ w, d = dW w ∧ Gp n A B w := by
    generalize dTn A B = T at *
    unfold b_law_shaped
    rw [exSs_nx (ρ' := [.p (.scr ns), .p (.int at_), .p (.int n), .p T, .p (dW w), .un, .un, .un, .un, .un, .un, .un, .un]) (s' := s) (by simp [hw])]
    rw [exSs_nx (ρ' := [.p (.scr ns), .p (.int at_), .p (.int n), .p T, .p (dW w), .p (.int N), .un, .un, .un, .un, .un, .un, .un]) (s' := s) (by simp [hc, hN])]
    rw [exSs_nx (ρ' := [.p (.scr ns), .p (.int at_), .p (.int n), .p T, .p (dW w), .p (.int N), .o (.lst []), .un, .un, .un, .un, .un, .un]) (s' := s) (by simp)]
    refine run_preR .int (fun pre ρ => ∃ (as : List (List Nat × PS)) (x7 x9 : Sl), ρ = [.p (.scr ns), .p (.int at_), .p (.int n), .p T, .p (dW w), .p (.int N), .o (.lst (as.map dA)), x7, .un, x9, .un, .un, .un] ∧ as.map Prod.fst = (w.as.map Prod.fst).take pre.length ∧ ∀ m ∈ as, PrsOk n m.2) (rngI w.as.length) (by simp [sB, rng_I]) ⟨[], .un, .un, rfl, rfl, by simp⟩ (fun pre x post hpre ρ ⟨as, x7, x9, e, h3, h4⟩ => ?_) ?_
    · subst e
      have hx := rngI_at hpre
      have hlen := len_pre hpre
      rw [rngI_len] at hlen
      have hlB : pre.length < w.as.length := by omega
      obtain ⟨m, hm⟩ : ∃ m, m = w.as[pre.length] := ⟨_, rfl⟩
      have hmm : m ∈ w.as := by rw [hm]; exact List.getElem_mem _
      have hix : L2.atI (w.as.map dA) x = some (dA m) := by
        rw [hx, atI_nat, List.getElem?_map, List.getElem?_eq_getElem hlB, hm]
        rfl
      have hpm := g.p m hmm
      have hlm := hpm.len h8
      obtain ⟨acc, hacc⟩ : ∃ acc, as.map dA = acc := ⟨_, rfl⟩
      have hal : acc.length < 16777216 := by
        have := congrArg List.length h3
        simp at this
        rw [← hacc]; simp; omega
      obtain ⟨ev, hev, hevok⟩ := c_law_even (s := s) (k + 1) (N / 3 + 5 * x) n h1 h8
      refine ⟨_, rfl, ?_⟩
      rw [hacc]
      have hfst : ∀ ps : PS, (as ++ [(m.1, ps)]).map Prod.fst = (w.as.map Prod.fst).take (pre ++ [x]).length := fun ps => by
        rw [List.map_append, h3, List.length_append, List.length_singleton, take_succ_of (show pre.length < (w.as.map Prod.fst).length by simpa using hlB), List.getElem_map, hm]
        rfl
      show ∃ ρ', exSs (callN (k + 2)) _ [.p (.scr ns), .p (.int at_), .p (.int n), .p T, .p (dW w), .p (.int N), .o (.lst acc), .p (.int x), .un, x9, .un, .un, .un] s = _ ∧ _
      rw [exSs_nx (ρ' := [.p (.scr ns), .p (.int at_), .p (.int n), .p T, .p (dW w), .p (.int N), .o (.lst acc), .p (.int x), .un, .p (dP m.2), .un, .un, .un]) (s' := s) (by simp [hix, dP])]
      have h3c : N % 3 = 0 ∨ N % 3 = 1 ∨ N % 3 = 2 := by omega
      rcases h3c with h3c | h3c | h3c
      · rw [exSs_nx (ρ' := [.p (.scr ns), .p (.int at_), .p (.int n), .p T, .p (dW w), .p (.int N), .o (.lst acc), .p (.int x), .un, .p (dP m.2), .un, .un, .un]) (s' := s) (by simp [h3c])]
        rw [exSs_nx (ρ' := [.p (.scr ns), .p (.int at_), .p (.int n), .p T, .p (dW w), .p (.int N), .o (.lst acc), .p (.int x), .un, .p (dP m.2), .un, .un, .un]) (s' := s) (by simp [h3c])]
        rw [exSs_nx (ρ' := [.p (.scr ns), .p (.int at_), .p (.int n), .p T, .p (dW w), .p (.int N), .o (.lst (acc ++ [dA (m.1, m.2)])), .p (.int x), .un, .p (dP m.2), .un, .un, .un]) (s' := s) (by simp [hix, hal, dA, dP])]
        refine ⟨_, rfl, as ++ [(m.1, m.2)], .p (.int x), .p (dP m.2), by simp [← hacc], hfst _, fun m' hm' => ?_⟩
        rcases List.mem_append.mp hm' with hm' | hm'
        · exact h4 m' hm'
        · rw [List.mem_singleton.mp hm']
          exact hpm
      · rw [exSs_nx (ρ' := [.p (.scr ns), .p (.int at_), .p (.int n), .p T, .p (dW w), .p (.int N), .o (.lst acc), .p (.int x), .un, .p (dP ev), .un, .un, .un]) (s' := s) (by simp [h3c, hev])]
        rw [exSs_nx (ρ' := [.p (.scr ns), .p (.int at_), .p (.int n), .p T, .p (dW w), .p (.int N), .o (.lst acc), .p (.int x), .un, .p (dP ev), .un, .un, .un]) (s' := s) (by simp [h3c])]
        rw [exSs_nx (ρ' := [.p (.scr ns), .p (.int at_), .p (.int n), .p T, .p (dW w), .p (.int N), .o (.lst (acc ++ [dA (m.1, ev)])), .p (.int x), .un, .p (dP ev), .un, .un, .un]) (s' := s) (by simp [hix, hal, dA, dP])]
        refine ⟨_, rfl, as ++ [(m.1, ev)], .p (.int x), .p (dP ev), by simp [← hacc], hfst _, fun m' hm' => ?_⟩
        rcases List.mem_append.mp hm' with hm' | hm'
        · exact h4 m' hm'
        · rw [List.mem_singleton.mp hm']
          exact hevok
      · rw [exSs_nx (ρ' := [.p (.scr ns), .p (.int at_), .p (.int n), .p T, .p (dW w), .p (.int N), .o (.lst acc), .p (.int x), .un, .p (dP m.2), .un, .un, .un]) (s' := s) (by simp [h3c])]
        obtain ⟨fl, hfl⟩ : ∃ fl, fl = m.2.filter (fun p => decide (p.1 < 2) || decide (1 < p.2)) := ⟨_, rfl⟩
        have hcm : evE (callN (k + 2)) (.comp true (.var 12) (.one 12) (.val (.var 9)) (.or2 (.cmp .lt (.ix (.var 12) (.int 0)) (.int 2)) (.cmp .gt (.ix (.var 12) (.int 1)) (.int 1)))) [.p (.scr ns), .p (.int at_), .p (.int n), .p T, .p (dW w), .p (.int N), .o (.lst acc), .p (.int x), .un, .p (dP m.2), .un, .un, .un] s = some (.lst (fl.map ofPair), s) := by
          rw [hfl]
          refine ev_comp_f (e := ofPair) (l := m.2) ofPair (fun p => decide (p.1 < 2) || decide (1 < p.2)) (by simp [dP]) (by simp) (by omega) (fun p hp => ⟨_, rfl, ?_, fun _ => by simp⟩)
          by_cases q1 : p.1 < 2 <;> simp [q1]
        rw [exSs_nx (ρ' := [.p (.scr ns), .p (.int at_), .p (.int n), .p T, .p (dW w), .p (.int N), .o (.lst acc), .p (.int x), .un, .p (dP fl), .un, .un, .un]) (s' := s) (by
          simp only [dP] at hcm ⊢
          simp [h3c, hcm])]
        rw [exSs_nx (ρ' := [.p (.scr ns), .p (.int at_), .p (.int n), .p T, .p (dW w), .p (.int N), .o (.lst (acc ++ [dA (m.1, fl)])), .p (.int x), .un, .p (dP fl), .un, .un, .un]) (s' := s) (by simp [hix, hal, dA, dP])]
        refine ⟨_, rfl, as ++ [(m.1, fl)], .p (.int x), .p (dP fl), by simp [← hacc], hfst _, fun m' hm' => ?_⟩
        rcases List.mem_append.mp hm' with hm' | hm'
        · exact h4 m' hm'
        · rw [List.mem_singleton.mp hm']
          rw [hfl]
          exact ⟨hpm.r.sublist List.filter_sublist, fun p hp => hpm.i p (List.mem_filter.mp hp).1⟩
    · rintro ρ ⟨as, x7, x9, rfl, h3, h4⟩
      rw [rngI_len, Int.toNat_natCast, List.take_of_length_le (by simp)] at h3
      obtain ⟨q, hq, hq5⟩ := mod_nat (N / 81) 5 (by decide)
      have hq : N / 81 % 5 = (q : Int) := hq
      have hcm : evE (callN (k + 2)) (.comp false (.tup (.cons (.var 10) (.cons (.sl (.var 11) .no (.ok (.bin .mod (.bin .fdiv (.var 5) (.int 81)) (.int 5)))) .nil))) (.many [10, 11]) (.val (.ix (.var 4) (.int 1))) (.bl true)) [.p (.scr ns), .p (.int at_), .p (.int n), .p T, .p (dW w), .p (.int N), .o (.lst (as.map dA)), x7, .un, x9, .un, .un, .un] s = some (.lst ((w.ms.map fun m => (m.1, m.2.take q)).map dM), s) := by
        rw [List.map_map]
        refine ev_comp_m (e := dM) (l := w.ms) (fun m => dM (m.1, m.2.take q)) (by simp) (by simp) (by omega) (fun m hm => ⟨_, rfl, ?_⟩)
        have := cut_to (m.2.map D.int) q
        rw [← List.map_take] at this
        simp [hq, this, dM]
      refine ⟨dW ⟨n, w.ms.map fun m => (m.1, m.2.take q), as⟩, ?_, _, rfl, rfl, ?_, ?_, ?_, ?_⟩
      · unfold dW at *
        generalize (w.ms.map fun m => (m.1, m.2.take q)).map dM = MD at *
        generalize as.map dA = AD at *
        simp [hcm]
      · rw [← g.a, List.map_map]
        rfl
      · rw [h3, g.b]
      · intro m hm
        obtain ⟨m', hm', rfl⟩ := List.mem_map.mp hm
        have := g.m m' hm'
        exact ⟨this.r.sublist (List.take_sublist _ _), fun x hx => this.i x (List.mem_of_mem_take hx)⟩
      · exact h4
  obtain ⟨d, h1, w, rfl, h2⟩ := key
  exact ⟨w, call_rt rfl h1, h2⟩
end
end Pk
end
section
-- PuGen6
set_option linter.all false
set_option maxRecDepth 10000
/-! Worlds turned, changed, run. -/
namespace Pk
open PySem
section
variable {s : Sh}
/-- an order of so many points -/
structure Ord (n : Int) (o : List Int) : Prop where
  l : (o.length : Int) = n
  nd : o.Nodup
  i : ∀ x ∈ o, 0 ≤ x ∧ x < n
theorem nodup_rngI (n : Int) : (rngI n).Nodup := by
  unfold rngI List.Nodup
  rw [List.pairwise_map]
  exact (List.nodup_range (n := n.toNat)).imp fun h e => h (by omega)
theorem c_law_order (k : Nat) (N n : Int) (h0 : 0 ≤ n) (h8 : n ≤ 8) : ∃ o, callN (k + 1) .law_order [.int N, .int n] s = some (.tup (o.map .int), s) ∧ Ord n o := by
  have hsm := smallOf h0 (show n ≤ 1000 by omega)
  have key : ∃ d, exSs (callN k) b_law_order [.p (.int N), .p (.int n), .un, .un, .un, .un] s = some (.rt d s) ∧ ∃ o, d = .tup (o.map .int) ∧ Ord n o := by
    unfold b_law_order
    rw [exSs_nx (ρ' := [.p (.int N), .p (.int n), .p (.lst ((rngI n).map .int)), .un, .un, .un]) (s' := s) (by simp [hsm, rng_I])]
    rw [exSs_nx (ρ' := [.p (.int N), .p (.int n), .p (.lst ((rngI n).map .int)), .o (.lst []), .un, .un]) (s' := s) (by simp)]
    refine run_preR .int (fun pre ρ => ∃ (M : Int) (L F : List Int) (x4 x5 : Sl), ρ = [.p (.int M), .p (.int n), .p (.lst (L.map .int)), .o (.lst (F.map .int)), x4, x5] ∧ F.length = pre.length ∧ (F ++ L).Perm (rngI n)) (rngI n) (by simp [rng_I, hsm]) ⟨N, rngI n, [], .un, .un, rfl, rfl, by simp⟩ (fun pre x post hpre ρ ⟨M, L, F, x4, x5, e, hF, hp⟩ => ?_) ?_
    · subst e
      have hlen := len_pre hpre
      have hpl := hp.length_eq
      rw [List.length_append] at hpl
      rw [rngI_len] at hlen hpl
      have hL : 0 < L.length := by omega
      obtain ⟨j, hj, hjL⟩ := mod_nat M L.length hL
      refine ⟨_, rfl, ?_⟩
      have hat : L2.atI (L.map D.int) (j : Int) = some (.int L[j]) := by
        rw [atI_nat, List.getElem?_map, List.getElem?_eq_getElem hjL]
        rfl
      have c1 := cut_to (L.map D.int) j
      have c2 := cut_from (L.map D.int) (j + 1)
      rw [← List.map_take] at c1
      rw [← List.map_drop] at c2
      have e1 : ((j + 1 : Nat) : Int) = (j : Int) + 1 := by omega
      rw [e1] at c2
      have hLl : (L.map D.int).length = L.length := by simp
      have hpos : (0 : Int) < L.length := by omega
      have hsz : min j L.length + (L.length - (j + 1)) ≤ 16777216 := by omega
      obtain ⟨acc, hacc⟩ : ∃ acc, F.map D.int = acc := ⟨_, rfl⟩
      have hal : acc.length < 16777216 := by rw [← hacc]; simp; omega
      refine ⟨[.p (.int (M / 11 + 7 * j)), .p (.int n), .p (.lst ((L.take j ++ L.drop (j + 1)).map .int)), .o (.lst (acc ++ [.int L[j]])), .p (.int x), .p (.int j)], ?_, M / 11 + 7 * j, L.take j ++ L.drop (j + 1), F ++ [L[j]], .p (.int x), .p (.int j), by simp [← hacc], by simp [hF], ?_⟩
      · rw [hacc, List.map_append]
        have hs1 : ((L.take j).map D.int).length + ((L.drop (j + 1)).map D.int).length ≤ 16777216 := by simp; omega
        generalize (L.take j).map D.int = T1 at *
        generalize (L.drop (j + 1)).map D.int = T2 at *
        generalize L.map D.int = LD at *
        show exSs (callN k) _ [.p (.int M), .p (.int n), .p (.lst LD), .o (.lst acc), .p (.int x), x5] s = _
        generalize L[j] = lj at *
        simp [hLl, hL, hj, hat, hal, c1, c2, hs1]
      · refine List.Perm.trans ?_ hp
        rw [List.append_assoc]
        refine List.Perm.append_left F ?_
        have : L = L.take j ++ ([L[j]] ++ L.drop (j + 1)) := by simp
        conv => rhs; rw [this]
        rw [← List.append_assoc, ← List.append_assoc]
        exact List.Perm.append_right _ List.perm_append_comm
    · rintro ρ ⟨M, L, F, x4, x5, rfl, hF, hp⟩
      have hpl := hp.length_eq
      rw [List.length_append, hF] at hpl
      have hL : L = [] := by
        cases L with
        | nil => rfl
        | cons a r => simp at hpl
      subst hL
      rw [List.append_nil] at hp
      refine ⟨_, by simp, F, rfl, ?_, hp.nodup_iff.mpr (nodup_rngI n), fun x hx => mem_rngI.mp (hp.mem_iff.mp hx)⟩
      rw [hF, rngI_len]
      omega
  obtain ⟨d, h1, o, rfl, h2⟩ := key
  exact ⟨o, call_rt rfl h1, h2⟩
theorem Ord.at {n : Int} {o : List Int} (h : Ord n o) {x : Int} (h0 : 0 ≤ x) (hn : x < n) : L2.atI (o.map D.int) x = some (.int (o.getD x.toNat 0)) := by
  have := h.l
  obtain ⟨j, rfl⟩ := Int.eq_ofNat_of_zero_le h0
  rw [atI_nat, List.getElem?_map, List.getElem?_eq_getElem (show j < o.length by omega)]
  simp [List.getD_eq_getElem?_getD, List.getElem?_eq_getElem (show j < o.length by omega)]
theorem Ord.inj {n : Int} {o : List Int} (h : Ord n o) {x y : Int} (hx : 0 ≤ x ∧ x < n) (hy : 0 ≤ y ∧ y < n) (e : o.getD x.toNat 0 = o.getD y.toNat 0) : x = y := by
  have hl := h.l
  have hx' : x.toNat < o.length := by omega
  have hy' : y.toNat < o.length := by omega
  simp only [List.getD_eq_getElem?_getD, List.getElem?_eq_getElem hx', List.getElem?_eq_getElem hy', Option.getD_some] at e
  have h1 := List.pairwise_iff_getElem.mp h.nd
  rcases Nat.lt_trichotomy x.toNat y.toNat with l | l | l
  · exact absurd e (h1 _ _ hx' hy' l)
  · omega
  · exact absurd e.symm (h1 _ _ hy' hx' l)
theorem Ord.mem {n : Int} {o : List Int} (h : Ord n o) {x : Int} (hx : 0 ≤ x ∧ x < n) : 0 ≤ o.getD x.toNat 0 ∧ o.getD x.toNat 0 < n := by
  have hl := h.l
  have hx' : x.toNat < o.length := by omega
  simp only [List.getD_eq_getElem?_getD, List.getElem?_eq_getElem hx', Option.getD_some]
  exact h.i _ (List.getElem_mem _)
def trI (o : List Int) (xs : List Int) : List Int := sortD ltI (xs.map fun x => o.getD x.toNat 0)
def trP (o : List Int) (ps : PS) : PS := sortD ltP (ps.map fun p => (o.getD p.1.toNat 0, o.getD p.2.toNat 0))
theorem trI_ok {n : Int} {o : List Int} (h : Ord n o) {xs : List Int} (k : PtsOk n xs) : PtsOk n (trI o xs) := by
  refine ⟨sortI ?_, fun x hx => ?_⟩
  · unfold List.Nodup
    rw [List.pairwise_map]
    refine List.Pairwise.imp_of_mem (fun {x y} hx hy l e => ?_) k.r
    have := h.inj (k.i x hx) (k.i y hy) e
    rw [ltI_iff] at l
    omega
  · obtain ⟨y, hy, rfl⟩ := List.mem_map.mp ((mem_sortD x _).mp hx)
    exact h.mem (k.i y hy)
theorem trP_ok {n : Int} {o : List Int} (h : Ord n o) {ps : PS} (k : PrsOk n ps) : PrsOk n (trP o ps) := by
  refine ⟨sortP ?_, fun x hx => ?_⟩
  · unfold List.Nodup
    rw [List.pairwise_map]
    refine List.Pairwise.imp_of_mem (fun {x y} hx hy l e => ?_) k.r
    simp only [Prod.mk.injEq] at e
    have h1 := h.inj (k.i x hx).1 (k.i y hy).1 e.1
    have h2 := h.inj (k.i x hx).2 (k.i y hy).2 e.2
    rw [ltP_iff] at l
    omega
  · obtain ⟨y, hy, rfl⟩ := List.mem_map.mp ((mem_sortD x _).mp hx)
    exact ⟨h.mem (k.i y hy).1, h.mem (k.i y hy).2⟩
theorem c_law_turned (k : Nat) (n : Int) (A B : List (List Nat)) (t : Tn A B) (w : W) (g : Gp n A B w) (o : List Int) (ho : Ord n o) (h8 : n ≤ 7) : ∃ w', callN (k + 1) .law_turned [dW w, .tup (o.map .int)] s = some (dW w', s) ∧ Gp n A B w' := by
  have e1 := congrArg List.length g.a
  have e2 := congrArg List.length g.b
  rw [List.length_map] at e1 e2
  have la := t.la
  have lb := t.lb
  refine ⟨⟨n, w.ms.map fun m => (m.1, trI o m.2), w.as.map fun m => (m.1, trP o m.2)⟩, call_rt rfl ?_, rfl, by rw [← g.a, List.map_map]; rfl, by rw [← g.b, List.map_map]; rfl, fun m hm => ?_, fun m hm => ?_⟩
  · show exSs (callN k) b_law_turned [.p (dW w), .p (.tup (o.map .int)), .un, .un, .un, .un, .un, .un, .un, .un] s = _
    unfold b_law_turned
    rw [exSs_nx (ρ' := [.p (dW w), .p (.tup (o.map .int)), .o (.lst []), .un, .un, .un, .un, .un, .un, .un]) (s' := s) (by simp)]
    have hat := fun x h0 hn => ho.at (x := x) h0 hn
    obtain ⟨O, hO⟩ : ∃ O, o.map D.int = O := ⟨_, rfl⟩
    rw [hO] at hat ⊢
    refine run_pre dM (fun pre ρ => ∃ x4 x5, ρ = [Sl.p (dW w), .p (.tup O), .o (.lst (pre.map fun m => dM (m.1, trI o m.2))), .un, x4, x5, .un, .un, .un, .un]) w.ms (by simp) ⟨.un, .un, by simp⟩ (fun pre m post hpre ρ ⟨x4, x5, e⟩ => ?_) ?_
    · subst e
      have hm : m ∈ w.ms := by rw [hpre]; simp
      have hlen := len_pre hpre
      have hok := g.m m hm
      have hml := hok.len (by omega)
      refine ⟨_, rfl, ?_⟩
      obtain ⟨acc, hacc⟩ : ∃ acc, (pre.map fun m => dM (m.1, trI o m.2)) = acc := ⟨_, rfl⟩
      have hal : acc.length < 16777216 := by rw [← hacc]; simp; omega
      rw [hacc]
      have hcm : evE (callN k) (.comp false (.ix (.var 1) (.var 7)) (.one 7) (.val (.var 5)) (.bl true)) [.p (dW w), .p (.tup O), .o (.lst acc), .un, .p (.str m.1), .p (.tup (m.2.map .int)), .un, .un, .un, .un] s = some (.lst ((m.2.map fun x => o.getD x.toNat 0).map .int), s) := by
        rw [List.map_map]
        refine ev_comp_m (e := .int) (l := m.2) (fun x => .int (o.getD x.toNat 0)) (by simp) (by simp) (by omega) (fun x hx => ⟨_, rfl, ?_⟩)
        have := hok.i x hx
        simp [hat x this.1 this.2]
      have hso := b1_sort_i (m.2.map fun x => o.getD x.toNat 0) (by simp; omega)
      refine ⟨[.p (dW w), .p (.tup O), .o (.lst (acc ++ [dM (m.1, trI o m.2)])), .un, .p (.str m.1), .p (.tup (m.2.map .int)), .un, .un, .un, .un], ?_, .p (.str m.1), .p (.tup (m.2.map .int)), by simp [← hacc]⟩
      show exSs (callN k) _ [.p (dW w), .p (.tup O), .o (.lst acc), .un, .p (.str m.1), .p (.tup (m.2.map .int)), .un, .un, .un, .un] s = _
      unfold dM trI
      generalize (m.2.map fun x => o.getD x.toNat 0).map D.int = U1 at *
      generalize (sortD ltI (m.2.map fun x => o.getD x.toNat 0)).map D.int = U2 at *
      generalize m.2.map D.int = U3 at *
      simp [hcm, hso, hal]
    · rintro ρ ⟨x4, x5, rfl⟩
      rw [exSs_nx (ρ' := [.p (dW w), .p (.tup O), .o (.lst (w.ms.map fun m => dM (m.1, trI o m.2))), .o (.lst []), x4, x5, .un, .un, .un, .un]) (s' := s) (by simp)]
      refine run_pre dA (fun pre ρ => ∃ x4 x6, ρ = [Sl.p (dW w), .p (.tup O), .o (.lst (w.ms.map fun m => dM (m.1, trI o m.2))), .o (.lst (pre.map fun m => dA (m.1, trP o m.2))), x4, x5, x6, .un, .un, .un]) w.as (by simp) ⟨x4, .un, by simp⟩ (fun pre m post hpre ρ ⟨x4, x6, e⟩ => ?_) ?_
      · subst e
        have hm : m ∈ w.as := by rw [hpre]; simp
        have hlen := len_pre hpre
        have hok := g.p m hm
        have hml : m.2.length ≤ 49 := by
          have := few 49 (m.2.map fun p => p.1 * 7 + p.2) (by
            unfold List.Nodup
            rw [List.pairwise_map]
            refine List.Pairwise.imp_of_mem (fun {p q} hp hq l e => ?_) hok.r
            have h1 := hok.i p hp
            have h2 := hok.i q hq
            rw [ltP_iff] at l
            omega) fun x hx => by
            obtain ⟨p, hp, rfl⟩ := List.mem_map.mp hx
            have h1 := hok.i p hp
            constructor
            · omega
            · show _ < ((49 : Nat) : Int)
              omega
          simpa using this
        refine ⟨_, rfl, ?_⟩
        obtain ⟨mac, hmac⟩ : ∃ mac, (w.ms.map fun m => dM (m.1, trI o m.2)) = mac := ⟨_, rfl⟩
        obtain ⟨acc, hacc⟩ : ∃ acc, (pre.map fun m => dA (m.1, trP o m.2)) = acc := ⟨_, rfl⟩
        have hal : acc.length < 16777216 := by rw [← hacc]; simp; omega
        rw [hacc, hmac]
        have hcm : evE (callN k) (.comp false (.tup (.cons (.ix (.var 1) (.var 8)) (.cons (.ix (.var 1) (.var 9)) .nil))) (.many [8, 9]) (.val (.var 6)) (.bl true)) [.p (dW w), .p (.tup O), .o (.lst mac), .o (.lst acc), .p (.str m.1), x5, .p (.tup (m.2.map ofPair)), .un, .un, .un] s = some (.lst ((m.2.map fun p => (o.getD p.1.toNat 0, o.getD p.2.toNat 0)).map ofPair), s) := by
          rw [List.map_map]
          refine ev_comp_m (e := ofPair) (l := m.2) (fun p => ofPair (o.getD p.1.toNat 0, o.getD p.2.toNat 0)) (by simp) (by simp) (by omega) (fun x hx => ⟨_, rfl, ?_⟩)
          have := hok.i x hx
          simp [hat x.1 this.1.1 this.1.2, hat x.2 this.2.1 this.2.2]
        have hso := b1_sort_p (m.2.map fun p => (o.getD p.1.toNat 0, o.getD p.2.toNat 0)) (by simp; omega) (fun p hp => by
          obtain ⟨q, hq, rfl⟩ := List.mem_map.mp hp
          have h1 := hok.i q hq
          have h2 := ho.mem h1.1
          have h3 := ho.mem h1.2
          show 0 ≤ o.getD q.1.toNat 0 ∧ o.getD q.1.toNat 0 < 64 ∧ 0 ≤ o.getD q.2.toNat 0 ∧ o.getD q.2.toNat 0 < 64
          omega)
        refine ⟨[.p (dW w), .p (.tup O), .o (.lst mac), .o (.lst (acc ++ [dA (m.1, trP o m.2)])), .p (.str m.1), x5, .p (.tup (m.2.map ofPair)), .un, .un, .un], ?_, .p (.str m.1), .p (.tup (m.2.map ofPair)), by simp [← hacc]⟩
        show exSs (callN k) _ [.p (dW w), .p (.tup O), .o (.lst mac), .o (.lst acc), .p (.str m.1), x5, .p (.tup (m.2.map ofPair)), .un, .un, .un] s = _
        unfold dA trP
        generalize (m.2.map fun p => (o.getD p.1.toNat 0, o.getD p.2.toNat 0)).map ofPair = U1 at *
        generalize (sortD ltP (m.2.map fun p => (o.getD p.1.toNat 0, o.getD p.2.toNat 0))).map ofPair = U2 at *
        generalize m.2.map ofPair = U3 at *
        simp [hcm, hso, hal]
      · rintro ρ ⟨x4, x6, rfl⟩
        have f1 : (w.ms.map fun m => dM (m.1, trI o m.2)) = (w.ms.map fun m => (m.1, trI o m.2)).map dM := by rw [List.map_map]; rfl
        have f2 : (w.as.map fun m => dA (m.1, trP o m.2)) = (w.as.map fun m => (m.1, trP o m.2)).map dA := by rw [List.map_map]; rfl
        rw [f1, f2]
        have hn := g.hn
        unfold dW
        simp only []
        generalize (w.ms.map fun m => (m.1, trI o m.2)).map dM = MD at *
        generalize (w.as.map fun m => (m.1, trP o m.2)).map dA = AD at *
        simp [hn]
  · obtain ⟨m', hm', rfl⟩ := List.mem_map.mp hm
    exact trI_ok ho (g.m m' hm')
  · obtain ⟨m', hm', rfl⟩ := List.mem_map.mp hm
    exact trP_ok ho (g.p m' hm')
end
end Pk
end
section
-- PuGen7
set_option linter.all false
set_option maxRecDepth 10000
/-! Worlds changed; two worlds; run. -/
namespace Pk
open PySem
section
variable {s : Sh}
def flI (xs : List Int) (x : Int) : List Int := if x ∈ xs then xs.filter (fun y => !decide (y = x)) else sortD ltI (xs ++ [x])
def flP (ps : PS) (p : Int × Int) : PS := if p ∈ ps then ps.filter (fun y => !decide (y = p)) else sortD ltP (ps ++ [p])
theorem flI_ok {n : Int} {xs : List Int} (h : PtsOk n xs) {x : Int} (hx : 0 ≤ x ∧ x < n) : PtsOk n (flI xs x) := by
  unfold flI
  split
  · exact ⟨h.r.sublist List.filter_sublist, fun y hy => h.i y (List.mem_filter.mp hy).1⟩
  · rename_i hm
    refine ⟨sortI ?_, fun y hy => ?_⟩
    · unfold List.Nodup
      rw [List.pairwise_append]
      refine ⟨h.r.imp fun {a b} l e => by rw [ltI_iff] at l; omega, by simp, fun a ha b hb e => ?_⟩
      rw [List.mem_singleton.mp hb] at e
      exact hm (e ▸ ha)
    · rcases List.mem_append.mp ((mem_sortD y _).mp hy) with hy | hy
      · exact h.i y hy
      · rw [List.mem_singleton.mp hy]
        exact hx
theorem flP_ok {n : Int} {ps : PS} (h : PrsOk n ps) {p : Int × Int} (hx : (0 ≤ p.1 ∧ p.1 < n) ∧ 0 ≤ p.2 ∧ p.2 < n) : PrsOk n (flP ps p) := by
  unfold flP
  split
  · exact ⟨h.r.sublist List.filter_sublist, fun y hy => h.i y (List.mem_filter.mp hy).1⟩
  · rename_i hm
    refine ⟨sortP ?_, fun y hy => ?_⟩
    · unfold List.Nodup
      rw [List.pairwise_append]
      refine ⟨h.r.imp fun {a b} l e => by subst e; rw [ltP_iff] at l; omega, by simp, fun a ha b hb e => ?_⟩
      rw [List.mem_singleton.mp hb] at e
      exact hm (e ▸ ha)
    · rcases List.mem_append.mp ((mem_sortD y _).mp hy) with hy | hy
      · exact h.i y hy
      · rw [List.mem_singleton.mp hy]
        exact hx
@[simp] theorem eq_pp (a b c d : Int) : eqD (.tup [.int a, .int b]) (.tup [.int c, .int d]) = some (decide (((a, b) : Int × Int) = (c, d))) := by
  obtain ⟨e, h, k⟩ := eq_sd (sd_pair (a, b)) (sd_pair (c, d)) (by omega) (by omega)
  exact some_dec h (by rw [k]; exact ofPair_inj)
theorem c_flI (k : Nat) (xs : List Int) (x : Int) (hl : xs.length ≤ 50) : callN (k + 1) .law_flipped [.tup (xs.map .int), .int x] s = some (.tup ((flI xs x).map .int), s) := by
  refine call_rt rfl ?_
  show exSs (callN k) b_law_flipped [.p (.tup (xs.map .int)), .p (.int x), .un] s = _
  unfold b_law_flipped flI
  by_cases hm : x ∈ xs
  · rw [if_pos hm]
    have hcm : evE (callN k) (.comp true (.var 2) (.one 2) (.val (.var 0)) (.cmp .ne (.var 2) (.var 1))) [.p (.tup (xs.map .int)), .p (.int x), .un] s = some (.lst ((xs.filter (fun y => !decide (y = x))).map .int), s) :=
      ev_comp_f (e := .int) (l := xs) .int (fun y => !decide (y = x)) (by simp) (by simp) (by omega) (fun y hy => ⟨_, rfl, by simp, fun _ => by simp⟩)
    generalize (xs.filter (fun y => !decide (y = x))).map D.int = U at *
    simp [hm, hcm]
  · rw [if_neg hm]
    have hso := b1_sort_i (xs ++ [x]) (by simp; omega)
    rw [List.map_append] at hso
    have hl2 : (xs.map D.int).length + 1 ≤ 16777216 := by simp; omega
    have hin := in_pts x xs
    rw [decide_eq_false hm] at hin
    generalize (sortD ltI (xs ++ [x])).map D.int = U at *
    generalize xs.map D.int = X at *
    simp only [List.map_cons, List.map_nil] at hso
    simp [hin, hl2, hso]
theorem c_flP (k : Nat) (ps : PS) (p : Int × Int) (hl : ps.length ≤ 50) (hr : ∀ q ∈ ps ++ [p], 0 ≤ q.1 ∧ q.1 < 64 ∧ 0 ≤ q.2 ∧ q.2 < 64) : callN (k + 1) .law_flipped [.tup (ps.map ofPair), ofPair p] s = some (.tup ((flP ps p).map ofPair), s) := by
  refine call_rt rfl ?_
  show exSs (callN k) b_law_flipped [.p (.tup (ps.map ofPair)), .p (ofPair p), .un] s = _
  have hin : inD (ofPair p) (.tup (ps.map ofPair)) = some (decide (p ∈ ps)) := in_prs p.1 p.2 ps
  unfold b_law_flipped flP
  by_cases hm : p ∈ ps
  · rw [if_pos hm]
    have hcm : evE (callN k) (.comp true (.var 2) (.one 2) (.val (.var 0)) (.cmp .ne (.var 2) (.var 1))) [.p (.tup (ps.map ofPair)), .p (ofPair p), .un] s = some (.lst ((ps.filter (fun y => !decide (y = p))).map ofPair), s) :=
      ev_comp_f (e := ofPair) (l := ps) ofPair (fun y => !decide (y = p)) (by simp) (by simp) (by omega) (fun y hy => ⟨_, rfl, by
        have := eq_pp y.1 y.2 p.1 p.2
        simp [this, Prod.ext_iff], fun _ => by simp⟩)
    rw [decide_eq_true hm] at hin
    generalize (ps.filter (fun y => !decide (y = p))).map ofPair = U at *
    generalize ps.map ofPair = X at *
    generalize ofPair p = P at *
    simp [hin, hcm]
  · rw [if_neg hm]
    have hso := b1_sort_p (ps ++ [p]) (by simp; omega) hr
    rw [List.map_append] at hso
    have hl2 : (ps.map ofPair).length + 1 ≤ 16777216 := by simp; omega
    rw [decide_eq_false hm] at hin
    simp only [List.map_cons, List.map_nil] at hso
    generalize (sortD ltP (ps ++ [p])).map ofPair = U at *
    generalize ps.map ofPair = X at *
    generalize ofPair p = P at *
    simp [hin, hl2, hso]
theorem sd_dM {m : List Nat × List Int} (h : okName m.1) : Sd 2 (dM m) := Sd.tup fun d hd => by
  simp only [List.mem_cons, List.not_mem_nil, or_false] at hd
  rcases hd with rfl | rfl
  · exact Sd.str fun c hc => isLet_lt (h.2.2.1 c hc)
  · exact Sd.tup (n := 0) sd_pt
theorem sd_dA {m : List Nat × PS} (h : okName m.1) : Sd 3 (dA m) := Sd.tup fun d hd => by
  simp only [List.mem_cons, List.not_mem_nil, or_false] at hd
  rcases hd with rfl | rfl
  · exact Sd.str fun c hc => isLet_lt (h.2.2.1 c hc)
  · exact Sd.tup (n := 1) sd_prs
theorem eq_l0 {α : Type} {n : Nat} (e : α → D) (l : List α) (h : ∀ x ∈ l, Sd n (e x)) (hn : n < 60) : eqD (.lst (l.map e)) (.lst []) = some (decide (l = [])) := by
  obtain ⟨c, h1, h2⟩ := eq_sd (Sd.lst (l := l.map e) (n := n) (fun d hd => by
    obtain ⟨x, hx, rfl⟩ := List.mem_map.mp hd
    exact h x hx)) (Sd.lst (n := 0) (l := []) (by simp)) (by omega) (by omega)
  exact some_dec h1 (by rw [h2]; simp)
theorem Tn.okm {n : Int} {A B : List (List Nat)} {w : W} (g : Gp n A B w) (t : Tn A B) : (∀ m ∈ w.ms, okName m.1) ∧ ∀ m ∈ w.as, okName m.1 :=
  ⟨fun m hm => t.a.ok _ (by rw [← g.a]; exact List.mem_map.mpr ⟨m, hm, rfl⟩), fun m hm => t.b.ok _ (by rw [← g.b]; exact List.mem_map.mpr ⟨m, hm, rfl⟩)⟩
theorem set_map {α β : Type} (f : α → β) (l : List α) (j : Nat) (x : α) : (l.set j x).map f = (l.map f).set j (f x) := by
  simp
theorem c_law_changed (k : Nat) (n : Int) (A B : List (List Nat)) (t : Tn A B) (w : W) (g : Gp n A B w) (N : Int) (h1 : 1 ≤ n) (h8 : n ≤ 7) : ∃ w', callN (k + 2) .law_changed [dW w, .int N] s = some (dW w', s) ∧ Gp n A B w' := by
  obtain ⟨om, oa⟩ := t.okm g
  have e1 := congrArg List.length g.a
  have e2 := congrArg List.length g.b
  rw [List.length_map] at e1 e2
  have la := t.la
  have lb := t.lb
  have hn := g.hn
  have hpos : 0 < w.n := by omega
  have q1 := eq_l0 dM w.ms (fun m hm => sd_dM (om m hm)) (by omega)
  have q2 := eq_l0 dA w.as (fun m hm => sd_dA (oa m hm)) (by omega)
  have md : ∀ x : Int, 0 ≤ x % w.n ∧ x % w.n < n := fun x => ⟨Int.emod_nonneg _ (by omega), by rw [← hn]; exact Int.emod_lt_of_pos _ hpos⟩
  have fin : ∀ (ms : List (List Nat × List Int)) (as : List (List Nat × PS)) (x4 x5 : Sl), exSs (callN (k + 1)) (.cons (.ret (.tup (.cons (.ix (.var 0) (.int 0)) (.cons (.b1 .tuple1 (.var 2)) (.cons (.b1 .tuple1 (.var 3)) .nil))))) .nil) [.p (dW w), .p (.int N), .o (.lst (ms.map dM)), .o (.lst (as.map dA)), x4, x5] s = some (.rt (dW ⟨n, ms, as⟩) s) := fun ms as x4 x5 => by
    unfold dW
    simp only []
    generalize ms.map dM = MD at *
    generalize as.map dA = AD at *
    simp [hn]
  have key : ∃ d, exSs (callN (k + 1)) b_law_changed [.p (dW w), .p (.int N), .un, .un, .un, .un] s = some (.rt d s) ∧ ∃ w', d = dW w' ∧ Gp n A B w' := by
    unfold b_law_changed
    rw [exSs_nx (ρ' := [.p (dW w), .p (.int N), .o (.lst (w.ms.map dM)), .un, .un, .un]) (s' := s) (by simp)]
    rw [exSs_nx (ρ' := [.p (dW w), .p (.int N), .o (.lst (w.ms.map dM)), .o (.lst (w.as.map dA)), .un, .un]) (s' := s) (by simp)]
    by_cases c1 : w.ms ≠ [] ∧ (N % 3 = 0 ∨ w.as = [])
    · -- a mark
      have hl : 0 < w.ms.length := List.length_pos_iff.mpr c1.1
      obtain ⟨j, hj, hjl⟩ := mod_nat (N / 3) w.ms.length hl
      obtain ⟨m, hm⟩ : ∃ m, m = w.ms[j] := ⟨_, rfl⟩
      have hmm : m ∈ w.ms := by rw [hm]; exact List.getElem_mem _
      have hat : L2.atI (w.ms.map dM) (j : Int) = some (dM m) := by
        rw [atI_nat, List.getElem?_map, List.getElem?_eq_getElem hjl, hm]
        rfl
      have hix : L2.ixN (w.ms.map dM).length (j : Int) = some j := by
        unfold L2.ixN
        simp [hjl]
      have hlen : (w.ms.map dM).length = w.ms.length := by simp
      have hfl := c_flI (s := s) k m.2 (N / 9 % w.n) (by have := (g.m m hmm).len (by omega); omega)
      have hcond : evE (callN (k + 1)) (.and2 (.cmp .ne (.var 2) (.lst .nil)) (.or2 (.cmp .eq (.bin .mod (.var 1) (.int 3)) (.int 0)) (.cmp .eq (.var 3) (.lst .nil)))) [.p (dW w), .p (.int N), .o (.lst (w.ms.map dM)), .o (.lst (w.as.map dA)), .un, .un] s = some (.bl true, s) := by
        rw [decide_eq_false c1.1] at q1
        have c3 := c1.2
        by_cases c4 : N % 3 = 0
        · generalize w.ms.map dM = MD at *
          generalize w.as.map dA = AD at *
          simp [q1, c4]
        · rw [decide_eq_true (c3.resolve_left c4)] at q2
          generalize w.ms.map dM = MD at *
          generalize w.as.map dA = AD at *
          simp [q1, q2, c4]
      rw [exSs_nx (ρ' := [.p (dW w), .p (.int N), .o (.lst ((w.ms.map dM).set j (dM (m.1, flI m.2 (N / 9 % w.n))))), .o (.lst (w.as.map dA)), .p (.int j), .un]) (s' := s) (by
        rw [exS.eq_def]
        simp only [hcond]
        have hd0 : dM (m.1, flI m.2 (N / 9 % w.n)) = .tup [.str m.1, .tup ((flI m.2 (N / 9 % w.n)).map .int)] := rfl
        have hd1 : dM m = .tup [.str m.1, .tup (m.2.map .int)] := rfl
        rw [hd0]
        rw [hd1] at hat
        rw [← hlen] at hj hl
        generalize (flI m.2 (N / 9 % w.n)).map D.int = FL at *
        generalize m.2.map D.int = MP at *
        generalize w.ms.map dM = MD at *
        generalize w.as.map dA = AD at *
        simp [hl, hj, hat, hix, hpos, hfl])]
      refine ⟨dW ⟨n, w.ms.set j (m.1, flI m.2 (N / 9 % w.n)), w.as⟩, by rw [← set_map]; exact fin _ _ _ _, ⟨n, w.ms.set j (m.1, flI m.2 (N / 9 % w.n)), w.as⟩, rfl, rfl, ?_, g.b, ?_, g.p⟩
      · rw [set_map, g.a]
        apply List.ext_getElem?
        intro i
        rw [List.getElem?_set]
        split
        · rename_i e
          subst e
          rw [← g.a]
          simp [hjl, hm]
        · rfl
      · intro m' hm'
        rcases List.mem_or_eq_of_mem_set hm' with h | rfl
        · exact g.m m' h
        · exact flI_ok (g.m m hmm) (md _)
    · have hcond : evE (callN (k + 1)) (.and2 (.cmp .ne (.var 2) (.lst .nil)) (.or2 (.cmp .eq (.bin .mod (.var 1) (.int 3)) (.int 0)) (.cmp .eq (.var 3) (.lst .nil)))) [.p (dW w), .p (.int N), .o (.lst (w.ms.map dM)), .o (.lst (w.as.map dA)), .un, .un] s = some (.bl false, s) := by
        by_cases c2 : w.ms = []
        · rw [decide_eq_true c2] at q1
          generalize w.ms.map dM = MD at *
          generalize w.as.map dA = AD at *
          simp [q1]
        · have c3 : ¬ N % 3 = 0 := fun z => c1 ⟨c2, .inl z⟩
          have c4 : ¬ w.as = [] := fun z => c1 ⟨c2, .inr z⟩
          rw [decide_eq_false c2] at q1
          rw [decide_eq_false c4] at q2
          generalize w.ms.map dM = MD at *
          generalize w.as.map dA = AD at *
          simp [q1, q2, c3]
      by_cases c5 : w.as = []
      · rw [exSs_nx (ρ' := [.p (dW w), .p (.int N), .o (.lst (w.ms.map dM)), .o (.lst (w.as.map dA)), .un, .un]) (s' := s) (by
          rw [exS.eq_def]
          simp only [hcond]
          rw [decide_eq_true c5] at q2
          generalize w.ms.map dM = MD at *
          generalize w.as.map dA = AD at *
          simp [q2])]
        exact ⟨_, fin _ _ _ _, _, rfl, rfl, g.a, g.b, g.m, g.p⟩
      · have hl : 0 < w.as.length := List.length_pos_iff.mpr c5
        obtain ⟨j, hj, hjl⟩ := mod_nat (N / 3) w.as.length hl
        obtain ⟨m, hm⟩ : ∃ m, m = w.as[j] := ⟨_, rfl⟩
        have hmm : m ∈ w.as := by rw [hm]; exact List.getElem_mem _
        have hat : L2.atI (w.as.map dA) (j : Int) = some (dA m) := by
          rw [atI_nat, List.getElem?_map, List.getElem?_eq_getElem hjl, hm]
          rfl
        have hix : L2.ixN (w.as.map dA).length (j : Int) = some j := by
          unfold L2.ixN
          simp [hjl]
        have hlen : (w.as.map dA).length = w.as.length := by simp
        have hpr := g.p m hmm
        have hml : m.2.length ≤ 49 := by
          have := few 49 (m.2.map fun p => p.1 * 7 + p.2) (by
            unfold List.Nodup
            rw [List.pairwise_map]
            refine List.Pairwise.imp_of_mem (fun {p q} hp hq l e => ?_) hpr.r
            have h1 := hpr.i p hp
            have h2 := hpr.i q hq
            rw [ltP_iff] at l
            omega) fun x hx => by
            obtain ⟨p, hp, rfl⟩ := List.mem_map.mp hx
            have h1 := hpr.i p hp
            constructor
            · omega
            · show _ < ((49 : Nat) : Int)
              omega
          simpa using this
        obtain ⟨p, hp⟩ : ∃ p, p = (N / 9 % w.n, N / 72 % w.n) := ⟨_, rfl⟩
        have hpi : (0 ≤ p.1 ∧ p.1 < n) ∧ 0 ≤ p.2 ∧ p.2 < n := by rw [hp]; exact ⟨md _, md _⟩
        have hfl := c_flP (s := s) k m.2 p (by omega) (fun q hq => by
          rcases List.mem_append.mp hq with hq | hq
          · have := hpr.i q hq
            omega
          · rw [List.mem_singleton.mp hq]
            omega)
        rw [exSs_nx (ρ' := [.p (dW w), .p (.int N), .o (.lst (w.ms.map dM)), .o (.lst ((w.as.map dA).set j (dA (m.1, flP m.2 p)))), .p (.int j), .p (ofPair p)]) (s' := s) (by
          rw [exS.eq_def]
          simp only [hcond]
          rw [decide_eq_false c5] at q2
          have hd0 : dA (m.1, flP m.2 p) = .tup [.str m.1, .tup ((flP m.2 p).map ofPair)] := rfl
          have hd1 : dA m = .tup [.str m.1, .tup (m.2.map ofPair)] := rfl
          have hd2 : ofPair p = .tup [.int (N / 9 % w.n), .int (N / 72 % w.n)] := by rw [hp]; rfl
          rw [hd0]
          rw [hd1] at hat
          rw [hd2] at hfl ⊢
          rw [← hlen] at hj hl
          generalize (flP m.2 p).map ofPair = FL at *
          generalize m.2.map ofPair = MP at *
          generalize w.ms.map dM = MD at *
          generalize w.as.map dA = AD at *
          simp [q2, hl, hj, hat, hix, hpos, hfl])]
        refine ⟨dW ⟨n, w.ms, w.as.set j (m.1, flP m.2 p)⟩, by rw [← set_map]; exact fin _ _ _ _, ⟨n, w.ms, w.as.set j (m.1, flP m.2 p)⟩, rfl, rfl, g.a, ?_, g.m, ?_⟩
        · rw [set_map, g.b]
          apply List.ext_getElem?
          intro i
          rw [List.getElem?_set]
          split
          · rename_i e
            subst e
            rw [← g.b]
            simp [hjl, hm]
          · rfl
        · intro m' hm'
          rcases List.mem_or_eq_of_mem_set hm' with h | rfl
          · exact g.p m' h
          · exact flP_ok hpr hpi
  obtain ⟨d, h1, w', rfl, h2⟩ := key
  exact ⟨w', call_rt rfl h1, h2⟩
end
end Pk
end
section
-- PuGen8
set_option linter.all false
set_option maxRecDepth 10000
/-! Two worlds; one tongue; side by side; run. -/
namespace Pk
open PySem
section
variable {s : Sh}
theorem c_law_two (k : Nat) (ns : List Int) (at_ : Int) (ha : 0 ≤ at_) : ∃ f g A B n m, callN (k + 4) .law_two [.scr ns, .int at_, .int 3] s = some (.tup [dW f, dW g], s) ∧ Tn A B ∧ Gp n A B f ∧ Gp m A B g ∧ (1 ≤ n ∧ n ≤ 3) ∧ 1 ≤ m ∧ m ≤ 3 := by
  obtain ⟨c0, hc0⟩ := c_cell (s := s) (k + 2) ns at_ ha
  obtain ⟨c1, hc1⟩ := c_cell (s := s) (k + 2) ns (at_ + 1) (by omega)
  obtain ⟨A, B, hT, t⟩ := c_law_tongue (s := s) (k + 1) c1
  obtain ⟨N, hN⟩ : ∃ N, c0 * 6257 % 1000003 = N := ⟨_, rfl⟩
  obtain ⟨n, hn⟩ : ∃ n, 1 + N % 3 = n := ⟨_, rfl⟩
  have hn13 : 1 ≤ n ∧ n ≤ 3 := by omega
  obtain ⟨f, hf, gf⟩ := c_law_shaped (s := s) k ns (at_ + 2) n A B t (by omega) hn13.1 (by omega)
  have key : ∃ d, exSs (callN (k + 3)) b_law_two [.p (.scr ns), .p (.int at_), .p (.int 3), .un, .un, .un, .un, .un, .un, .un] s = some (.rt d s) ∧ ∃ g m, d = .tup [dW f, dW g] ∧ Gp m A B g ∧ 1 ≤ m ∧ m ≤ 3 := by
    have e1 : ∃ T, T = dTn A B := ⟨_, rfl⟩
    obtain ⟨T, hTT⟩ := e1
    have hsh2 := fun m (h : 1 ≤ m ∧ m ≤ 3) => c_law_shaped (s := s) k ns (at_ + 10) m A B t (by omega) h.1 (by omega)
    rw [← hTT] at hT hf
    simp only [← hTT] at hsh2
    unfold b_law_two
    rw [exSs_nx (ρ' := [.p (.scr ns), .p (.int at_), .p (.int 3), .p (.int N), .un, .un, .un, .un, .un, .un]) (s' := s) (by simp [hc0, hN])]
    rw [exSs_nx (ρ' := [.p (.scr ns), .p (.int at_), .p (.int 3), .p (.int N), .p T, .un, .un, .un, .un, .un]) (s' := s) (by simp [hc1, hT])]
    rw [exSs_nx (ρ' := [.p (.scr ns), .p (.int at_), .p (.int 3), .p (.int N), .p T, .p (.int n), .un, .un, .un, .un]) (s' := s) (by simp [hn])]
    rw [exSs_nx (ρ' := [.p (.scr ns), .p (.int at_), .p (.int 3), .p (.int N), .p T, .p (.int n), .p (dW f), .un, .un, .un]) (s' := s) (by simp [hf])]
    obtain ⟨y, hy, hy5⟩ := mod_nat (N / 4) 5 (by decide)
    have hy : N / 4 % 5 = (y : Int) := hy
    rw [exSs_nx (ρ' := [.p (.scr ns), .p (.int at_), .p (.int 3), .p (.int N), .p T, .p (.int n), .p (dW f), .p (.int y), .un, .un]) (s' := s) (by simp [hy])]
    by_cases hy2 : y < 2
    · obtain ⟨m, hm⟩ : ∃ m, 1 + N / 20 % 3 = m := ⟨_, rfl⟩
      have hm13 : 1 ≤ m ∧ m ≤ 3 := by omega
      obtain ⟨g, hg, gg⟩ := hsh2 m hm13
      refine ⟨.tup [dW f, dW g], ?_, g, m, rfl, gg, hm13⟩
      have hy2' : (y : Int) < 2 := by omega
      rw [exSs_rt (d := .tup [dW f, dW g]) (s' := s) (by simp [hy2', hm, hg])]
    · have hy2' : ¬ (y : Int) < 2 := by omega
      obtain ⟨c9, hc9⟩ := c_cell (s := s) (k + 2) ns (at_ + 9) (by omega)
      obtain ⟨o, ho, oo⟩ := c_law_order (s := s) (k + 2) c9 n (by omega) (by omega)
      obtain ⟨w8, hw8, g8⟩ := c_law_turned (s := s) (k + 2) n A B t f gf o oo (by omega)
      rw [exSs_nx (ρ' := [.p (.scr ns), .p (.int at_), .p (.int 3), .p (.int N), .p T, .p (.int n), .p (dW f), .p (.int y), .un, .un]) (s' := s) (by simp [hy2'])]
      rw [exSs_nx (ρ' := [.p (.scr ns), .p (.int at_), .p (.int 3), .p (.int N), .p T, .p (.int n), .p (dW f), .p (.int y), .p (dW w8), .un]) (s' := s) (by simp [hc9, ho, hw8])]
      obtain ⟨r, hr, hr3⟩ : ∃ r : Nat, L2.atI ([0, 1, 2].map D.int) ((y : Int) - 2) = some (.int r) ∧ r ≤ 2 := by
        have : y = 2 ∨ y = 3 ∨ y = 4 := by omega
        rcases this with rfl | rfl | rfl
        · exact ⟨0, rfl, by omega⟩
        · exact ⟨1, rfl, by omega⟩
        · exact ⟨2, rfl, by omega⟩
      have hr : L2.atI [D.int 0, D.int 1, D.int 2] ((y : Int) - 2) = some (.int r) := hr
      refine run_preR .int (fun pre ρ => ∃ (w8 : W) (x9 : Sl), ρ = [.p (.scr ns), .p (.int at_), .p (.int 3), .p (.int N), .p T, .p (.int n), .p (dW f), .p (.int y), .p (dW w8), x9] ∧ Gp n A B w8) (rngI r) (by simp [hr, rng_I, smallOf (show (0 : Int) ≤ r by omega) (by omega)]) ⟨w8, .un, rfl, g8⟩ (fun pre x post hpre ρ ⟨w8, x9, e, g8⟩ => ?_) ?_
      · subst e
        have hx := rngI_at hpre
        obtain ⟨c, hc⟩ := c_cell (s := s) (k + 2) ns (at_ + 10 + x) (by omega)
        obtain ⟨w9, hw9, g9⟩ := c_law_changed (s := s) (k + 1) n A B t w8 g8 c hn13.1 (by omega)
        refine ⟨_, rfl, [.p (.scr ns), .p (.int at_), .p (.int 3), .p (.int N), .p T, .p (.int n), .p (dW f), .p (.int y), .p (dW w9), .p (.int x)], by simp [hc, hw9], w9, .p (.int x), rfl, g9⟩
      · rintro ρ ⟨w8, x9, rfl, g8⟩
        exact ⟨.tup [dW f, dW w8], by simp, w8, n, rfl, g8, hn13⟩
  obtain ⟨d, h1, g, m, rfl, gg, hm⟩ := key
  exact ⟨f, g, A, B, n, m, call_rt rfl h1, t, gf, gg, hn13, hm⟩
/-! ### of another tongue -/
theorem c_law_of_tongue (k : Nat) (n m : Int) (A B A' B' : List (List Nat)) (t : Tn A B) (t' : Tn A' B') (w l : W) (g : Gp n A' B' w) (gl : Gp m A B l) : ∃ w', callN (k + 1) .law_of_tongue [dW w, dW l] s = some (dW w', s) ∧ Gp n A B w' := by
  have e1 := congrArg List.length g.a
  have e2 := congrArg List.length g.b
  have e3 := congrArg List.length gl.a
  have e4 := congrArg List.length gl.b
  rw [List.length_map] at e1 e2 e3 e4
  have la := t.la
  have lb := t.lb
  have la' := t'.la
  have lb' := t'.lb
  have hn := g.hn
  have key : ∃ d, exSs (callN k) b_law_of_tongue [.p (dW w), .p (dW l), .un, .un, .un, .un, .un, .un, .un] s = some (.rt d s) ∧ ∃ w', d = dW w' ∧ Gp n A B w' := by
    unfold b_law_of_tongue
    rw [exSs_nx (ρ' := [.p (dW w), .p (dW l), .o (.lst []), .un, .un, .un, .un, .un, .un]) (s' := s) (by simp)]
    have sA : small? (l.ms.length : Int) = true := smallOf (by omega) (by omega)
    have sB : small? (l.as.length : Int) = true := smallOf (by omega) (by omega)
    refine run_preR .int (fun pre ρ => ∃ (ms : List (List Nat × List Int)) (x3 x5 : Sl), ρ = [.p (dW w), .p (dW l), .o (.lst (ms.map dM)), x3, .un, x5, .un, .un, .un] ∧ ms.map Prod.fst = A.take pre.length ∧ ∀ m ∈ ms, PtsOk n m.2) (rngI l.ms.length) (by simp [sA, rng_I]) ⟨[], .un, .un, rfl, rfl, by simp⟩ (fun pre x post hpre ρ ⟨ms, x3, x5, e, h1, h2⟩ => ?_) ?_
    · subst e
      have hx := rngI_at hpre
      have hlen := len_pre hpre
      rw [rngI_len] at hlen
      have hll : pre.length < l.ms.length := by omega
      obtain ⟨lm, hlm⟩ : ∃ lm, lm = l.ms[pre.length] := ⟨_, rfl⟩
      have hix : L2.atI (l.ms.map dM) x = some (dM lm) := by
        rw [hx, atI_nat, List.getElem?_map, List.getElem?_eq_getElem hll, hlm]
        rfl
      obtain ⟨xs, hxs, hok⟩ : ∃ xs, L2.atI (w.ms.map (fun m => D.tup (m.2.map .int)) ++ [.tup [], .tup [], .tup []]) x = some (.tup (xs.map .int)) ∧ PtsOk n xs := by
        rw [hx, atI_nat]
        by_cases hw : pre.length < w.ms.length
        · rw [List.getElem?_append_left (by simpa using hw), List.getElem?_map, List.getElem?_eq_getElem hw]
          exact ⟨_, rfl, g.m _ (List.getElem_mem _)⟩
        · rw [List.getElem?_append_right (by simp; omega)]
          have : pre.length - (w.ms.map (fun m => D.tup (m.2.map .int))).length < 3 := by simp; omega
          have h3 : ∀ j, j < 3 → ([D.tup [], D.tup [], D.tup []] : List D)[j]? = some (.tup []) := fun j hj => by
            have : j = 0 ∨ j = 1 ∨ j = 2 := by omega
            rcases this with rfl | rfl | rfl <;> rfl
          exact ⟨[], h3 _ this, ⟨by simp, by simp⟩⟩
      obtain ⟨acc, hacc⟩ : ∃ acc, ms.map dM = acc := ⟨_, rfl⟩
      have hal : acc.length < 16777216 := by
        have := congrArg List.length h1
        simp at this
        rw [← hacc]; simp; omega
      rw [hacc]
      have hcm : ∀ x5 : Sl, evE (callN k) (.comp false (.var 7) (.many [6, 7]) (.val (.ix (.var 0) (.int 1))) (.bl true)) [.p (dW w), .p (dW l), .o (.lst acc), .p (.int x), .un, x5, .un, .un, .un] s = some (.lst (w.ms.map (fun m => D.tup (m.2.map .int))), s) := fun x5 =>
        ev_comp_m (e := dM) (l := w.ms) (fun m => D.tup (m.2.map .int)) (by simp) (by simp) (by omega) (fun m hm => ⟨_, rfl, by simp⟩)
      have hsz : (w.ms.map (fun m => D.tup (m.2.map .int))).length + 3 ≤ 16777216 := by simp; omega
      refine ⟨_, rfl, [.p (dW w), .p (dW l), .o (.lst (acc ++ [.tup [.str lm.1, .tup (xs.map .int)]])), .p (.int x), .un, .p (.lst (w.ms.map (fun m => D.tup (m.2.map .int)))), .un, .un, .un], ?_, ms ++ [(lm.1, xs)], .p (.int x), .p (.lst (w.ms.map (fun m => D.tup (m.2.map .int)))), by simp [← hacc, dM], ?_, ?_⟩
      · show exSs (callN k) _ [.p (dW w), .p (dW l), .o (.lst acc), .p (.int x), .un, x5, .un, .un, .un] s = _
        generalize w.ms.map (fun m => D.tup (m.2.map .int)) = WD at *
        generalize xs.map D.int = X at *
        simp [hcm, hix, hxs, hsz, hal]
      · rw [List.map_append, h1, List.length_append, List.length_singleton, take_succ_of (show pre.length < A.length by omega)]
        have : A[pre.length]'(by omega) = lm.1 := by
          simp only [← gl.a, List.getElem_map, hlm]
        rw [this]
        rfl
      · intro m hm
        rcases List.mem_append.mp hm with hm | hm
        · exact h2 m hm
        · rw [List.mem_singleton.mp hm]
          exact hok
    · rintro ρ ⟨ms, x3, x5, rfl, h1, h2⟩
      rw [rngI_len, Int.toNat_natCast, e3, List.take_length] at h1
      rw [exSs_nx (ρ' := [.p (dW w), .p (dW l), .o (.lst (ms.map dM)), x3, .o (.lst []), x5, .un, .un, .un]) (s' := s) (by simp)]
      refine run_preR .int (fun pre ρ => ∃ (as : List (List Nat × PS)) (x3 x5 : Sl), ρ = [.p (dW w), .p (dW l), .o (.lst (ms.map dM)), x3, .o (.lst (as.map dA)), x5, .un, .un, .un] ∧ as.map Prod.fst = B.take pre.length ∧ ∀ m ∈ as, PrsOk n m.2) (rngI l.as.length) (by simp [sB, rng_I]) ⟨[], x3, x5, rfl, rfl, by simp⟩ (fun pre x post hpre ρ ⟨as, x3, x5, e, h3, h4⟩ => ?_) ?_
      · subst e
        have hx := rngI_at hpre
        have hlen := len_pre hpre
        rw [rngI_len] at hlen
        have hll : pre.length < l.as.length := by omega
        obtain ⟨lm, hlm⟩ : ∃ lm, lm = l.as[pre.length] := ⟨_, rfl⟩
        have hix : L2.atI (l.as.map dA) x = some (dA lm) := by
          rw [hx, atI_nat, List.getElem?_map, List.getElem?_eq_getElem hll, hlm]
          rfl
        obtain ⟨xs, hxs, hok⟩ : ∃ xs, L2.atI (w.as.map (fun m => D.tup (m.2.map ofPair)) ++ [.tup [], .tup [], .tup []]) x = some (.tup (xs.map ofPair)) ∧ PrsOk n xs := by
          rw [hx, atI_nat]
          by_cases hw : pre.length < w.as.length
          · rw [List.getElem?_append_left (by simpa using hw), List.getElem?_map, List.getElem?_eq_getElem hw]
            exact ⟨_, rfl, g.p _ (List.getElem_mem _)⟩
          · rw [List.getElem?_append_right (by simp; omega)]
            have : pre.length - (w.as.map (fun m => D.tup (m.2.map ofPair))).length < 3 := by simp; omega
            have h3 : ∀ j, j < 3 → ([D.tup [], D.tup [], D.tup []] : List D)[j]? = some (.tup []) := fun j hj => by
              have : j = 0 ∨ j = 1 ∨ j = 2 := by omega
              rcases this with rfl | rfl | rfl <;> rfl
            exact ⟨[], h3 _ this, ⟨by simp [Rise], by simp⟩⟩
        obtain ⟨mac, hmac⟩ : ∃ mac, ms.map dM = mac := ⟨_, rfl⟩
        obtain ⟨acc, hacc⟩ : ∃ acc, as.map dA = acc := ⟨_, rfl⟩
        have hal : acc.length < 16777216 := by
          have := congrArg List.length h3
          simp at this
          rw [← hacc]; simp; omega
        rw [hacc, hmac]
        have hcm : ∀ x5 : Sl, evE (callN k) (.comp false (.var 8) (.many [6, 8]) (.val (.ix (.var 0) (.int 2))) (.bl true)) [.p (dW w), .p (dW l), .o (.lst mac), .p (.int x), .o (.lst acc), x5, .un, .un, .un] s = some (.lst (w.as.map (fun m => D.tup (m.2.map ofPair))), s) := fun x5 =>
          ev_comp_m (e := dA) (l := w.as) (fun m => D.tup (m.2.map ofPair)) (by simp) (by simp) (by omega) (fun m hm => ⟨_, rfl, by simp⟩)
        have hsz : (w.as.map (fun m => D.tup (m.2.map ofPair))).length + 3 ≤ 16777216 := by simp; omega
        refine ⟨_, rfl, [.p (dW w), .p (dW l), .o (.lst mac), .p (.int x), .o (.lst (acc ++ [.tup [.str lm.1, .tup (xs.map ofPair)]])), .p (.lst (w.as.map (fun m => D.tup (m.2.map ofPair)))), .un, .un, .un], ?_, as ++ [(lm.1, xs)], .p (.int x), .p (.lst (w.as.map (fun m => D.tup (m.2.map ofPair)))), by simp [← hacc, dA], ?_, ?_⟩
        · show exSs (callN k) _ [.p (dW w), .p (dW l), .o (.lst mac), .p (.int x), .o (.lst acc), x5, .un, .un, .un] s = _
          generalize w.as.map (fun m => D.tup (m.2.map ofPair)) = WD at *
          generalize xs.map ofPair = X at *
          simp [hcm, hix, hxs, hsz, hal]
        · rw [List.map_append, h3, List.length_append, List.length_singleton, take_succ_of (show pre.length < B.length by omega)]
          have : B[pre.length]'(by omega) = lm.1 := by
            simp only [← gl.b, List.getElem_map, hlm]
          rw [this]
          rfl
        · intro m hm
          rcases List.mem_append.mp hm with hm | hm
          · exact h4 m hm
          · rw [List.mem_singleton.mp hm]
            exact hok
      · rintro ρ ⟨as, x3, x5, rfl, h3, h4⟩
        rw [rngI_len, Int.toNat_natCast, e4, List.take_length] at h3
        refine ⟨dW ⟨n, ms, as⟩, ?_, ⟨n, ms, as⟩, rfl, rfl, h1, h3, h2, h4⟩
        unfold dW
        simp only []
        generalize ms.map dM = MD at *
        generalize as.map dA = AD at *
        simp [hn]
  obtain ⟨d, h1, w', rfl, h2⟩ := key
  exact ⟨w', call_rt rfl h1, h2⟩
end
end Pk
end
section
-- PuSum
set_option linter.all false
set_option maxRecDepth 10000
/-! Side by side, run. -/
namespace Pk
open PySem
section
variable {s : Sh} {f g : W}
theorem zipWith_eq {α β γ : Type} (F : α → β → γ) : ∀ (l : List α) (m : List β), List.zipWith F l m = (l.zip m).map fun p => F p.1 p.2
  | [], _ => by simp
  | _ :: _, [] => by simp
  | x :: xs, y :: ys => by simp [zipWith_eq F xs ys]
theorem c_beside (k : Nat) (hf : GdW f) (hg : GdW g) (t : Tg f g) (h8 : f.n + g.n ≤ 8) : callN (k + 3) .beside [dW f, dW g] s = some (dW (sumW f g), s) := by
  have tw : Two f g := ⟨t, ⟨fun m hm c hc => isLet_lt ((hf.nm m hm).2.2.1 c hc), fun m hm c hc => isLet_lt ((hf.na m hm).2.2.1 c hc)⟩, hf.n1, hg.n1, by have := hf.lm; omega, by have := hf.la; omega⟩
  have hct := c_check_tongue (s := s) k tw
  have h8' : ¬ (8 : Int) < f.n + g.n := by omega
  refine call_rt rfl ?_
  show exSs (callN (k + 2)) b_beside [.p (dW f), .p (dW g), .un, .un, .un, .un, .un, .un, .un, .un] s = _
  unfold b_beside
  rw [exSs_nx (ρ' := [.p (dW f), .p (dW g), .un, .un, .un, .un, .un, .un, .un, .un]) (s' := s) (by simp [hct])]
  rw [exSs_nx (ρ' := [.p (dW f), .p (dW g), .p (.int f.n), .un, .un, .un, .un, .un, .un, .un]) (s' := s) (by simp)]
  rw [exSs_nx (ρ' := [.p (dW f), .p (dW g), .p (.int f.n), .un, .un, .un, .un, .un, .un, .un]) (s' := s) (by simp [h8'])]
  rw [exSs_nx (ρ' := [.p (dW f), .p (dW g), .p (.int f.n), .o (.lst []), .un, .un, .un, .un, .un, .un]) (s' := s) (by simp)]
  refine run_pre (fun p : (List Nat × List Int) × (List Nat × List Int) => .tup [dM p.1, dM p.2]) (fun pre ρ => ∃ x5 x6 : Sl, ρ = [.p (dW f), .p (dW g), .p (.int f.n), .o (.lst (pre.map fun p => dM (shM f.n p.1 p.2))), .un, x5, x6, .un, .un, .un]) (f.ms.zip g.ms) (by simp [zipD_map]) ⟨.un, .un, by simp⟩ (fun pre p post hpre ρ ⟨x5, x6, e⟩ => ?_) ?_
  · subst e
    have hp : p ∈ f.ms.zip g.ms := by rw [hpre]; simp
    have h1 := (List.of_mem_zip hp).1
    have h2 := (List.of_mem_zip hp).2
    have l1 := hf.pts p.1 h1
    have l2 := hg.pts p.2 h2
    have hlen := len_pre hpre
    rw [List.length_zip] at hlen
    have hlm := hf.lm
    obtain ⟨acc, hacc⟩ : ∃ acc, (pre.map fun p => dM (shM f.n p.1 p.2)) = acc := ⟨_, rfl⟩
    have hal : acc.length < 16777216 := by rw [← hacc]; simp; omega
    rw [hacc]
    have hcm : evE (callN (k + 2)) (.comp false (.bin .add (.var 7) (.var 2)) (.one 7) (.val (.ix (.var 6) (.int 1))) (.bl true)) [.p (dW f), .p (dW g), .p (.int f.n), .o (.lst acc), .un, .p (dM p.1), .p (dM p.2), .un, .un, .un] s = some (.lst ((p.2.2.map fun x => x + f.n).map .int), s) := by
      rw [List.map_map]
      exact ev_comp_m (e := .int) (l := p.2.2) (fun x => .int (x + f.n)) (by simp) (by simp) (by omega) (fun x hx => ⟨_, rfl, by simp⟩)
    refine ⟨_, rfl, [.p (dW f), .p (dW g), .p (.int f.n), .o (.lst (acc ++ [dM (shM f.n p.1 p.2)])), .un, .p (dM p.1), .p (dM p.2), .un, .un, .un], ?_, .p (dM p.1), .p (dM p.2), by simp [← hacc]⟩
    show exSs (callN (k + 2)) _ [.p (dW f), .p (dW g), .p (.int f.n), .o (.lst acc), .un, .p (dM p.1), .p (dM p.2), .un, .un, .un] s = _
    have hd : dM (shM f.n p.1 p.2) = .tup [.str p.1.1, .tup (p.1.2.map .int ++ (p.2.2.map fun x => x + f.n).map .int)] := by simp [dM, shM]
    rw [hd]
    have hsz : (p.1.2.map D.int).length + ((p.2.2.map fun x => x + f.n).map D.int).length ≤ 16777216 := by simp; omega
    have hi0 := ix_M0 p.1
    have hi1 := ix_M1 p.1
    generalize (p.2.2.map fun x => x + f.n).map D.int = U at *
    generalize p.1.2.map D.int = V at *
    simp [hi0, hi1, hcm, hsz, hal]
  · rintro ρ ⟨x5, x6, rfl⟩
    obtain ⟨mac, hmac⟩ : ∃ mac, ((f.ms.zip g.ms).map fun p => dM (shM f.n p.1 p.2)) = mac := ⟨_, rfl⟩
    rw [hmac]
    rw [exSs_nx (ρ' := [.p (dW f), .p (dW g), .p (.int f.n), .o (.lst mac), .o (.lst []), x5, x6, .un, .un, .un]) (s' := s) (by simp)]
    refine run_pre (fun p : (List Nat × PS) × (List Nat × PS) => .tup [dA p.1, dA p.2]) (fun pre ρ => ∃ x5 x6 : Sl, ρ = [.p (dW f), .p (dW g), .p (.int f.n), .o (.lst mac), .o (.lst (pre.map fun p => dA (shA f.n p.1 p.2))), x5, x6, .un, .un, .un]) (f.as.zip g.as) (by simp [zipD_map]) ⟨x5, x6, by simp⟩ (fun pre p post hpre ρ ⟨x5, x6, e⟩ => ?_) ?_
    · subst e
      have hp : p ∈ f.as.zip g.as := by rw [hpre]; simp
      have h1 := (List.of_mem_zip hp).1
      have h2 := (List.of_mem_zip hp).2
      have l1 := hf.prs p.1 h1
      have l2 := hg.prs p.2 h2
      have hlen := len_pre hpre
      rw [List.length_zip] at hlen
      have hlm := hf.la
      obtain ⟨acc, hacc⟩ : ∃ acc, (pre.map fun p => dA (shA f.n p.1 p.2)) = acc := ⟨_, rfl⟩
      have hal : acc.length < 16777216 := by rw [← hacc]; simp; omega
      rw [hacc]
      have hcm : evE (callN (k + 2)) (.comp false (.tup (.cons (.bin .add (.var 8) (.var 2)) (.cons (.bin .add (.var 9) (.var 2)) .nil))) (.many [8, 9]) (.val (.ix (.var 6) (.int 1))) (.bl true)) [.p (dW f), .p (dW g), .p (.int f.n), .o (.lst mac), .o (.lst acc), .p (dA p.1), .p (dA p.2), .un, .un, .un] s = some (.lst ((p.2.2.map fun q => (q.1 + f.n, q.2 + f.n)).map ofPair), s) := by
        rw [List.map_map]
        exact ev_comp_m (e := ofPair) (l := p.2.2) (fun q => ofPair (q.1 + f.n, q.2 + f.n)) (by simp) (by simp) (by omega) (fun x hx => ⟨_, rfl, by simp⟩)
      refine ⟨_, rfl, [.p (dW f), .p (dW g), .p (.int f.n), .o (.lst mac), .o (.lst (acc ++ [dA (shA f.n p.1 p.2)])), .p (dA p.1), .p (dA p.2), .un, .un, .un], ?_, .p (dA p.1), .p (dA p.2), by simp [← hacc]⟩
      show exSs (callN (k + 2)) _ [.p (dW f), .p (dW g), .p (.int f.n), .o (.lst mac), .o (.lst acc), .p (dA p.1), .p (dA p.2), .un, .un, .un] s = _
      have hd : dA (shA f.n p.1 p.2) = .tup [.str p.1.1, .tup (p.1.2.map ofPair ++ (p.2.2.map fun q => (q.1 + f.n, q.2 + f.n)).map ofPair)] := by simp [dA, shA]
      rw [hd]
      have hsz : (p.1.2.map ofPair).length + ((p.2.2.map fun q => (q.1 + f.n, q.2 + f.n)).map ofPair).length ≤ 16777216 := by simp; omega
      have hi0 := ix_A0 p.1
      have hi1 := ix_A1 p.1
      generalize (p.2.2.map fun q => (q.1 + f.n, q.2 + f.n)).map ofPair = U at *
      generalize p.1.2.map ofPair = V at *
      simp [hi0, hi1, hcm, hsz, hal]
    · rintro ρ ⟨x5, x6, rfl⟩
      have f1 : mac = (sumW f g).ms.map dM := by
        rw [← hmac]
        simp [sumW, zipWith_eq]
      have f2 : ((f.as.zip g.as).map fun p => dA (shA f.n p.1 p.2)) = (sumW f g).as.map dA := by simp [sumW, zipWith_eq]
      have f3 : (sumW f g).n = f.n + g.n := rfl
      rw [f2, f1]
      have hd : dW (sumW f g) = .tup [.int (f.n + g.n), .tup ((sumW f g).ms.map dM), .tup ((sumW f g).as.map dA)] := rfl
      rw [hd]
      generalize (sumW f g).ms.map dM = MD at *
      generalize (sumW f g).as.map dA = AD at *
      simp
theorem c_law_sum (k : Nat) (hf : GdW f) (hg : GdW g) (t : Tg f g) : callN (k + 1) .law_sum [dW f, dW g] s = some (dW (sumW f g), s) := by
  have hlm := hf.lm
  have hla := hf.la
  have tl := t.lm
  have tl2 := t.la
  have sA : small? (f.ms.length : Int) = true := smallOf (by omega) (by omega)
  have sB : small? (f.as.length : Int) = true := smallOf (by omega) (by omega)
  refine call_rt rfl ?_
  show exSs (callN k) b_law_sum [.p (dW f), .p (dW g), .un, .un, .un, .un, .un, .un, .un] s = _
  unfold b_law_sum
  rw [exSs_nx (ρ' := [.p (dW f), .p (dW g), .p (.int f.n), .un, .un, .un, .un, .un, .un]) (s' := s) (by simp)]
  rw [exSs_nx (ρ' := [.p (dW f), .p (dW g), .p (.int f.n), .o (.lst []), .un, .un, .un, .un, .un]) (s' := s) (by simp)]
  obtain ⟨Z, hZ⟩ : ∃ Z, (List.zipWith (shM f.n) f.ms g.ms) = Z := ⟨_, rfl⟩
  have hZl : Z.length = f.ms.length := by rw [← hZ]; simp; omega
  refine run_pre .int (fun pre ρ => ∃ x4 : Sl, ρ = [.p (dW f), .p (dW g), .p (.int f.n), .o (.lst ((Z.take pre.length).map dM)), x4, .un, .un, .un, .un]) (rngI f.ms.length) (by simp [sA, rng_I]) ⟨.un, by simp⟩ (fun pre x post hpre ρ ⟨x4, e⟩ => ?_) ?_
  · subst e
    have hx := rngI_at hpre
    have hlen := len_pre hpre
    rw [rngI_len] at hlen
    have h1 : pre.length < f.ms.length := by omega
    have h2 : pre.length < g.ms.length := by omega
    obtain ⟨p, hp⟩ : ∃ p, p = f.ms[pre.length] := ⟨_, rfl⟩
    obtain ⟨q, hq⟩ : ∃ q, q = g.ms[pre.length] := ⟨_, rfl⟩
    have hix : L2.atI (f.ms.map dM) x = some (dM p) := by
      rw [hx, atI_nat, List.getElem?_map, List.getElem?_eq_getElem h1, hp]
      rfl
    have hiy : L2.atI (g.ms.map dM) x = some (dM q) := by
      rw [hx, atI_nat, List.getElem?_map, List.getElem?_eq_getElem h2, hq]
      rfl
    have l1 := hf.pts p (by rw [hp]; exact List.getElem_mem _)
    have l2 := hg.pts q (by rw [hq]; exact List.getElem_mem _)
    have hZp : Z[pre.length]'(by omega) = shM f.n p q := by simp [← hZ, hp, hq]
    obtain ⟨acc, hacc⟩ : ∃ acc, ((Z.take pre.length).map dM) = acc := ⟨_, rfl⟩
    have hal : acc.length < 16777216 := by rw [← hacc]; simp; omega
    rw [hacc]
    have hcm : evE (callN k) (.comp false (.bin .add (.var 6) (.var 2)) (.one 6) (.val (.ix (.ix (.ix (.var 1) (.int 1)) (.var 4)) (.int 1))) (.bl true)) [.p (dW f), .p (dW g), .p (.int f.n), .o (.lst acc), .p (.int x), .un, .un, .un, .un] s = some (.lst ((q.2.map fun x => x + f.n).map .int), s) := by
      rw [List.map_map]
      exact ev_comp_m (e := .int) (l := q.2) (fun x => .int (x + f.n)) (by simp [hiy]) (by simp) (by omega) (fun x hx => ⟨_, rfl, by simp⟩)
    refine ⟨_, rfl, [.p (dW f), .p (dW g), .p (.int f.n), .o (.lst (acc ++ [dM (shM f.n p q)])), .p (.int x), .un, .un, .un, .un], ?_, .p (.int x), ?_⟩
    · show exSs (callN k) _ [.p (dW f), .p (dW g), .p (.int f.n), .o (.lst acc), .p (.int x), .un, .un, .un, .un] s = _
      have hd : dM (shM f.n p q) = .tup [.str p.1, .tup (p.2.map .int ++ (q.2.map fun x => x + f.n).map .int)] := by simp [dM, shM]
      rw [hd]
      have hsz : (p.2.map D.int).length + ((q.2.map fun x => x + f.n).map D.int).length ≤ 16777216 := by simp; omega
      have hi0 := ix_M0 p
      have hi1 := ix_M1 p
      generalize (q.2.map fun x => x + f.n).map D.int = U at *
      generalize p.2.map D.int = V at *
      simp [hi0, hi1, hix, hcm, hsz, hal]
    · rw [List.length_append, List.length_singleton, take_succ_of (show pre.length < Z.length by omega), List.map_append, hacc, hZp]
      rfl
  · rintro ρ ⟨x4, rfl⟩
    rw [rngI_len, Int.toNat_natCast, ← hZl, List.take_length]
    obtain ⟨mac, hmac⟩ : ∃ mac, Z.map dM = mac := ⟨_, rfl⟩
    rw [hmac]
    rw [exSs_nx (ρ' := [.p (dW f), .p (dW g), .p (.int f.n), .o (.lst mac), x4, .o (.lst []), .un, .un, .un]) (s' := s) (by simp)]
    obtain ⟨Y, hY⟩ : ∃ Y, (List.zipWith (shA f.n) f.as g.as) = Y := ⟨_, rfl⟩
    have hYl : Y.length = f.as.length := by rw [← hY]; simp; omega
    refine run_pre .int (fun pre ρ => ∃ x4 : Sl, ρ = [.p (dW f), .p (dW g), .p (.int f.n), .o (.lst mac), x4, .o (.lst ((Y.take pre.length).map dA)), .un, .un, .un]) (rngI f.as.length) (by simp [sB, rng_I]) ⟨x4, by simp⟩ (fun pre x post hpre ρ ⟨x4, e⟩ => ?_) ?_
    · subst e
      have hx := rngI_at hpre
      have hlen := len_pre hpre
      rw [rngI_len] at hlen
      have h1 : pre.length < f.as.length := by omega
      have h2 : pre.length < g.as.length := by omega
      obtain ⟨p, hp⟩ : ∃ p, p = f.as[pre.length] := ⟨_, rfl⟩
      obtain ⟨q, hq⟩ : ∃ q, q = g.as[pre.length] := ⟨_, rfl⟩
      have hix : L2.atI (f.as.map dA) x = some (dA p) := by
        rw [hx, atI_nat, List.getElem?_map, List.getElem?_eq_getElem h1, hp]
        rfl
      have hiy : L2.atI (g.as.map dA) x = some (dA q) := by
        rw [hx, atI_nat, List.getElem?_map, List.getElem?_eq_getElem h2, hq]
        rfl
      have l1 := hf.prs p (by rw [hp]; exact List.getElem_mem _)
      have l2 := hg.prs q (by rw [hq]; exact List.getElem_mem _)
      have hYp : Y[pre.length]'(by omega) = shA f.n p q := by simp [← hY, hp, hq]
      obtain ⟨acc, hacc⟩ : ∃ acc, ((Y.take pre.length).map dA) = acc := ⟨_, rfl⟩
      have hal : acc.length < 16777216 := by rw [← hacc]; simp; omega
      rw [hacc]
      have hcm : evE (callN k) (.comp false (.tup (.cons (.bin .add (.var 7) (.var 2)) (.cons (.bin .add (.var 8) (.var 2)) .nil))) (.many [7, 8]) (.val (.ix (.ix (.ix (.var 1) (.int 2)) (.var 4)) (.int 1))) (.bl true)) [.p (dW f), .p (dW g), .p (.int f.n), .o (.lst mac), .p (.int x), .o (.lst acc), .un, .un, .un] s = some (.lst ((q.2.map fun z => (z.1 + f.n, z.2 + f.n)).map ofPair), s) := by
        rw [List.map_map]
        exact ev_comp_m (e := ofPair) (l := q.2) (fun z => ofPair (z.1 + f.n, z.2 + f.n)) (by simp [hiy]) (by simp) (by omega) (fun x hx => ⟨_, rfl, by simp⟩)
      refine ⟨_, rfl, [.p (dW f), .p (dW g), .p (.int f.n), .o (.lst mac), .p (.int x), .o (.lst (acc ++ [dA (shA f.n p q)])), .un, .un, .un], ?_, .p (.int x), ?_⟩
      · show exSs (callN k) _ [.p (dW f), .p (dW g), .p (.int f.n), .o (.lst mac), .p (.int x), .o (.lst acc), .un, .un, .un] s = _
        have hd : dA (shA f.n p q) = .tup [.str p.1, .tup (p.2.map ofPair ++ (q.2.map fun z => (z.1 + f.n, z.2 + f.n)).map ofPair)] := by simp [dA, shA]
        rw [hd]
        have hsz : (p.2.map ofPair).length + ((q.2.map fun z => (z.1 + f.n, z.2 + f.n)).map ofPair).length ≤ 16777216 := by simp; omega
        have hi0 := ix_A0 p
        have hi1 := ix_A1 p
        generalize (q.2.map fun z => (z.1 + f.n, z.2 + f.n)).map ofPair = U at *
        generalize p.2.map ofPair = V at *
        simp [hi0, hi1, hix, hcm, hsz, hal]
      · rw [List.length_append, List.length_singleton, take_succ_of (show pre.length < Y.length by omega), List.map_append, hacc, hYp]
        rfl
    · rintro ρ ⟨x4, rfl⟩
      rw [rngI_len, Int.toNat_natCast, ← hYl, List.take_length]
      have hd : dW (sumW f g) = .tup [.int (f.n + g.n), .tup mac, .tup (Y.map dA)] := by
        rw [← hmac, ← hZ, ← hY]
        rfl
      rw [hd]
      generalize Y.map dA = AD at *
      simp
/-- side by side: a world as good -/
theorem GdW.sum (hf : GdW f) (hg : GdW g) (t : Tg f g) (h8 : f.n + g.n ≤ 8) : GdW (sumW f g) := by
  have n1 := hf.n1
  have n2 := hg.n1
  have e1 : (sumW f g).ms.map Prod.fst = f.ms.map Prod.fst := by
    have := t.lm
    apply List.ext_getElem
    · simp [sumW]; omega
    · intro i h1 h2
      simp [sumW, shM]
  have e2 : (sumW f g).as.map Prod.fst = f.as.map Prod.fst := by
    have := t.la
    apply List.ext_getElem
    · simp [sumW]; omega
    · intro i h1 h2
      simp [sumW, shA]
  have l1 := congrArg List.length e1
  have l2 := congrArg List.length e2
  rw [List.length_map, List.length_map] at l1 l2
  have hlm := hf.lm
  have hla := hf.la
  have mm : ∀ m ∈ (sumW f g).ms, ∃ p ∈ f.ms, ∃ q ∈ g.ms, m = shM f.n p q := fun m hm => by
    simp only [sumW, zipWith_eq] at hm
    obtain ⟨p, hp, rfl⟩ := List.mem_map.mp hm
    exact ⟨p.1, (List.of_mem_zip hp).1, p.2, (List.of_mem_zip hp).2, rfl⟩
  have ma : ∀ m ∈ (sumW f g).as, ∃ p ∈ f.as, ∃ q ∈ g.as, m = shA f.n p q := fun m hm => by
    simp only [sumW, zipWith_eq] at hm
    obtain ⟨p, hp, rfl⟩ := List.mem_map.mp hm
    exact ⟨p.1, (List.of_mem_zip hp).1, p.2, (List.of_mem_zip hp).2, rfl⟩
  refine ⟨by show 1 ≤ f.n + g.n; omega, h8, by omega, by omega, fun m hm => ?_, fun m hm => ?_, by rw [e1]; exact hf.rm, by rw [e2]; exact hf.ra, fun m hm => ?_, fun m hm => ?_, fun m hm x hx => ?_, fun m hm x hx => ?_⟩
  · obtain ⟨p, hp, q, hq, rfl⟩ := mm m hm
    exact hf.nm p hp
  · obtain ⟨p, hp, q, hq, rfl⟩ := ma m hm
    exact hf.na p hp
  · obtain ⟨p, hp, q, hq, rfl⟩ := mm m hm
    show (p.2 ++ q.2.map fun x => x + f.n).Pairwise _
    rw [List.pairwise_append, List.pairwise_map]
    refine ⟨hf.pm p hp, (hg.pm q hq).imp fun {a b} l => ?_, fun a ha b hb => ?_⟩
    · rw [ltI_iff] at *
      omega
    · obtain ⟨y, hy, rfl⟩ := List.mem_map.mp hb
      have h1 := hf.im p hp a ha
      have h2 := hg.im q hq y hy
      rw [ltI_iff]
      omega
  · obtain ⟨p, hp, q, hq, rfl⟩ := ma m hm
    show (p.2 ++ q.2.map fun x => (x.1 + f.n, x.2 + f.n)).Pairwise _
    rw [List.pairwise_append, List.pairwise_map]
    refine ⟨hf.pa p hp, (hg.pa q hq).imp fun {a b} l => ?_, fun a ha b hb => ?_⟩
    · rw [ltP_iff] at *
      simp only
      omega
    · obtain ⟨y, hy, rfl⟩ := List.mem_map.mp hb
      have h1 := hf.ia p hp a ha
      have h2 := hg.ia q hq y hy
      rw [ltP_iff]
      simp only
      omega
  · obtain ⟨p, hp, q, hq, rfl⟩ := mm m hm
    show 0 ≤ x ∧ x < f.n + g.n
    rcases List.mem_append.mp hx with hx | hx
    · have := hf.im p hp x hx
      omega
    · obtain ⟨y, hy, rfl⟩ := List.mem_map.mp hx
      have := hg.im q hq y hy
      omega
  · obtain ⟨p, hp, q, hq, rfl⟩ := ma m hm
    show (0 ≤ x.1 ∧ x.1 < f.n + g.n) ∧ 0 ≤ x.2 ∧ x.2 < f.n + g.n
    rcases List.mem_append.mp hx with hx | hx
    · have := hf.ia p hp x hx
      omega
    · obtain ⟨y, hy, rfl⟩ := List.mem_map.mp hx
      have := hg.ia q hq y hy
      simp only
      omega
end
end Pk
end
section
-- PuGrow
set_option linter.all false
set_option maxRecDepth 10000
/-! Sayings drawn, run. -/
namespace Pk
open PySem
/-- a saying with least -/
inductive Rw where
  | mark (n : List Nat) (l : Nat)
  | arrow (n : List Nat) (l m : Nat)
  | same (l m : Nat)
  | neg (r : Rw)
  | jn (b : Bool) (l : List Rw)
  | qu (b : Bool) (c : Nat) (r : Rw)
  | lea (n : Int) (c : Nat) (r : Rw)
mutual
def pl : Rw → Sy
  | .mark n l => .mark n l
  | .arrow n l m => .arrow n l m
  | .same l m => .same l m
  | .neg r => .neg (pl r)
  | .jn b l => .jn b (plL l)
  | .qu b c r => .qu b c (pl r)
  | .lea n c r => .qu true c (pl r)
def plL : List Rw → List Sy
  | [] => []
  | r :: t => pl r :: plL t
end
mutual
def dR : Rw → D
  | .mark n l => dS (.mark n l)
  | .arrow n l m => dS (.arrow n l m)
  | .same l m => dS (.same l m)
  | .neg r => .tup [.str [110, 111, 116], dR r]
  | .jn b l => .tup [.str (wJ b), .tup (dRL l)]
  | .qu b c r => .tup [.str (wQ b), .str [c], dR r]
  | .lea n c r => .tup [.str [108, 101, 97, 115, 116], .int n, .str [c], dR r]
def dRL : List Rw → List D
  | [] => []
  | r :: t => dR r :: dRL t
end
theorem dRL_map : ∀ l, dRL l = l.map dR
  | [] => rfl
  | r :: t => by rw [dRL, dRL_map t]; rfl
theorem plL_map : ∀ l, plL l = l.map pl
  | [] => rfl
  | r :: t => by rw [plL, plL_map t]; rfl
mutual
def sz : Sy → Nat
  | .neg φ => sz φ + 1
  | .jn _ l => szL l + 1
  | .qu _ _ φ => sz φ + 1
  | _ => 1
def szL : List Sy → Nat
  | [] => 0
  | φ :: r => sz φ + szL r
end
mutual
theorem hg_sz : ∀ φ : Sy, hg φ ≤ sz φ
  | .mark _ _ => by simp [hg, sz]
  | .arrow _ _ _ => by simp [hg, sz]
  | .same _ _ => by simp [hg, sz]
  | .neg φ => by have := hg_sz φ; simp only [hg, sz]; omega
  | .jn _ l => by have := hgL_sz l; simp only [hg, sz]; omega
  | .qu _ _ φ => by have := hg_sz φ; simp only [hg, sz]; omega
theorem hgL_sz : ∀ l : List Sy, hgL l ≤ szL l
  | [] => by simp [hgL, szL]
  | φ :: r => by have := hg_sz φ; have := hgL_sz r; simp only [hgL, szL]; omega
end
theorem sz_mem {l : List Sy} : ∀ φ ∈ l, sz φ ≤ szL l := by
  induction l with
  | nil => intro φ h; cases h
  | cons x r ih =>
    intro φ h
    rcases List.mem_cons.mp h with rfl | h
    · rw [szL]; omega
    · have := ih φ h
      rw [szL]; omega
mutual
theorem sh_len {V : Voc} (hV : Vn V) : ∀ φ : Sy, wf V φ → (sh φ).length + 5 ≤ 25 * sz φ
  | .mark n l, h => by
    have := (hV.tm n h.1).2.1
    simp only [sh, sz, List.length_append, List.length_singleton]
    omega
  | .arrow n l m, h => by
    have := (hV.ta n h.1).2.1
    simp only [sh, sz, List.length_append, List.length_singleton]
    omega
  | .same l m, h => by simp [sh, sz]
  | .neg φ, h => by
    have := sh_len hV φ h
    simp only [sh, sz, List.length_append, List.length_cons, List.length_nil]
    omega
  | .qu b c φ, h => by
    have := sh_len hV φ h.2
    have h5 : (wQ b).length ≤ 5 := by cases b <;> simp [wQ]
    simp only [sh, sz, List.length_append, List.length_cons, List.length_nil]
    omega
  | .jn b [], h => by cases b <;> simp [sh, sz, szL, wE]
  | .jn b (φ :: r), h => by
    have h5 : ([32] ++ wJ b ++ [32] : List Nat).length ≤ 5 := by cases b <;> simp [wJ]
    have := shL_len hV _ h5 (φ :: r) h.2.2
    simp only [sh, sz, List.length_append, List.length_cons, List.length_nil] at this ⊢
    omega
theorem shL_len {V : Voc} (hV : Vn V) (z : List Nat) (hz : z.length ≤ 5) : ∀ l : List Sy, wfL V l → (joinL z (shL l)).length ≤ 25 * szL l
  | [], _ => by simp [shL, joinL]
  | [φ], h => by
    have := sh_len hV φ h.1
    simp only [shL, joinL, szL]
    omega
  | φ :: ψ :: r, h => by
    have h1 := sh_len hV φ h.1
    have h2 := shL_len hV z hz (ψ :: r) h.2
    simp only [shL, joinL, szL, List.length_append] at h2 ⊢
    omega
end
section
variable {s : Sh}
mutual
theorem sd_dR {V : Voc} (hV : Vn V) : ∀ r : Rw, wf V (pl r) → Sd (2 * sz (pl r) + 1) (dR r)
  | .mark n l, h => (sd_dS (m := 0) ⟨fun n hn c hc => isLet_lt ((hV.tm n hn).2.2.1 c hc), fun n hn c hc => isLet_lt ((hV.ta n hn).2.2.1 c hc), fun c hc => isLet_lt (hV.lt c hc)⟩ _ (by simp [pl, hg]) h).mono (by omega)
  | .arrow n l m, h => (sd_dS (m := 0) ⟨fun n hn c hc => isLet_lt ((hV.tm n hn).2.2.1 c hc), fun n hn c hc => isLet_lt ((hV.ta n hn).2.2.1 c hc), fun c hc => isLet_lt (hV.lt c hc)⟩ _ (by simp [pl, hg]) h).mono (by omega)
  | .same l m, h => (sd_dS (m := 0) ⟨fun n hn c hc => isLet_lt ((hV.tm n hn).2.2.1 c hc), fun n hn c hc => isLet_lt ((hV.ta n hn).2.2.1 c hc), fun c hc => isLet_lt (hV.lt c hc)⟩ _ (by simp [pl, hg]) h).mono (by omega)
  | .neg r, h => by
    have := sd_dR hV r h
    refine Sd.tup fun d hd => ?_
    simp only [List.mem_cons, List.not_mem_nil, or_false] at hd
    rcases hd with rfl | rfl
    · exact sd_word _ (by decide)
    · exact this.mono (by simp only [pl, sz]; omega)
  | .qu b c r, h => by
    have := sd_dR hV r h.2
    refine Sd.tup fun d hd => ?_
    simp only [List.mem_cons, List.not_mem_nil, or_false] at hd
    rcases hd with rfl | rfl | rfl
    · exact sd_word _ (by cases b <;> decide)
    · exact sd_let (isLet_lt (hV.lt c h.1))
    · exact this.mono (by simp only [pl, sz]; omega)
  | .lea n c r, h => by
    have := sd_dR hV r h.2
    refine Sd.tup fun d hd => ?_
    simp only [List.mem_cons, List.not_mem_nil, or_false] at hd
    rcases hd with rfl | rfl | rfl | rfl
    · exact sd_word _ (by decide)
    · exact Sd.int n
    · exact sd_let (isLet_lt (hV.lt c h.1))
    · exact this.mono (by simp only [pl, sz]; omega)
  | .jn b l, h => by
    have := sd_dRL hV l h.2.2
    refine Sd.tup fun d hd => ?_
    simp only [List.mem_cons, List.not_mem_nil, or_false] at hd
    rcases hd with rfl | rfl
    · exact sd_word _ (by cases b <;> decide)
    · refine (Sd.tup fun d hd => ?_ : Sd (2 * szL (plL l) + 1 + 1) _).mono (by simp only [pl, sz]; omega)
      rw [dRL_map] at hd
      obtain ⟨r, hr, rfl⟩ := List.mem_map.mp hd
      exact this r hr
theorem sd_dRL {V : Voc} (hV : Vn V) : ∀ l : List Rw, wfL V (plL l) → ∀ r ∈ l, Sd (2 * szL (plL l) + 1) (dR r)
  | [], _ => by simp
  | x :: t, h => by
    have h1 := sd_dR hV x h.1
    have h2 := sd_dRL hV t h.2
    intro r hr
    rcases List.mem_cons.mp hr with rfl | hr
    · exact h1.mono (by simp only [plL, szL]; omega)
    · exact (h2 r hr).mono (by simp only [plL, szL]; omega)
end
/-! ### letters, leaves -/
theorem c_law_letters (k : Nat) (c : Int) : ∃ ls : List Nat, callN (k + 1) .law_letters [.int c] s = some (.lst (ls.map dC), s) ∧ ls.length = 4 ∧ ∀ l ∈ ls, isLet l = true := by
  have hal := fun i : Nat => at_lets (c + 7 * (i : Nat))
  obtain ⟨f, hf⟩ : ∃ f : Nat → Nat, ∀ i, f i = 97 + ((c + 7 * (i : Nat)) % 26).toNat := ⟨_, fun _ => rfl⟩
  have hal : ∀ i : Nat, L2.atI [97, 98, 99, 100, 101, 102, 103, 104, 105, 106, 107, 108, 109, 110, 111, 112, 113, 114, 115, 116, 117, 118, 119, 120, 121, 122] ((c + 7 * (i : Nat)) % 26) = some (f i) := fun i => by rw [hf]; exact hal i
  refine ⟨(List.range 4).map f, call_rt rfl ?_, by simp, fun l hl => ?_⟩
  · show exSs (callN k) b_law_letters [.p (.int c), .un] s = _
    have hcm : evE (callN k) (.comp false (.ix (.str [97, 98, 99, 100, 101, 102, 103, 104, 105, 106, 107, 108, 109, 110, 111, 112, 113, 114, 115, 116, 117, 118, 119, 120, 121, 122]) (.bin .mod (.bin .add (.var 0) (.bin .mul (.int 7) (.var 1))) (.int 26))) (.one 1) (.r1 (.int 4)) (.bl true)) [.p (.int c), .un] s = some (.lst (((List.range 4).map f).map dC), s) := by
      rw [List.map_map]
      refine ev_comp_m (e := fun i : Nat => .int (0 + (i : Nat))) (l := List.range 4) (fun i => dC (f i)) (by simp [rngL, small?]) rfl (by simp) (fun i hi => ⟨_, rfl, ?_⟩)
      have := hal i
      simp [this]
    generalize ((List.range 4).map f).map dC = U at *
    simp [b_law_letters, hcm]
  · obtain ⟨i, _, rfl⟩ := List.mem_map.mp hl
    rw [hf]
    have h0 : 0 ≤ (c + 7 * (i : Int)) % 26 := Int.emod_nonneg _ (by decide)
    have h1 : (c + 7 * (i : Int)) % 26 < 26 := Int.emod_lt_of_pos _ (by decide)
    simp only [isLet, decide_eq_true_eq]
    omega
theorem pick {α : Type} (e : α → D) (l : List α) (i : Int) (h : 0 < l.length) : ∃ x ∈ l, L2.atI (l.map e) (i % (l.length : Int)) = some (e x) := by
  obtain ⟨j, hj, hl⟩ := mod_nat i l.length h
  rw [hj, atI_nat, List.getElem?_map, List.getElem?_eq_getElem hl]
  exact ⟨_, List.getElem_mem _, rfl⟩
theorem eq_t0 {α : Type} {n : Nat} (e : α → D) (l : List α) (h : ∀ x ∈ l, Sd n (e x)) (hn : n < 60) : eqD (.tup (l.map e)) (.tup []) = some (decide (l = [])) := by
  obtain ⟨c, h1, h2⟩ := eq_sd (Sd.tup (l := l.map e) (n := n) (fun d hd => by
    obtain ⟨x, hx, rfl⟩ := List.mem_map.mp hd
    exact h x hx)) (Sd.tup (n := 0) (l := []) (by simp)) (by omega) (by omega)
  exact some_dec h1 (by rw [h2]; simp)
theorem c_law_leaf (k : Nat) (N : Int) (A B : List (List Nat)) (ls : List Nat) (hA : ∀ n ∈ A, okName n) (hB : ∀ n ∈ B, okName n) (h4 : ls.length = 4) : ∃ r, callN (k + 1) .law_leaf [.int N, dTn A B, .lst (ls.map dC)] s = some (dR r, s) ∧ wf ⟨ls, A, B⟩ (pl r) ∧ sz (pl r) = 1 := by
  have hpos : 0 < ls.length := by omega
  obtain ⟨x, hx, ex⟩ := pick dC ls (N / 3) hpos
  obtain ⟨y, hy, ey⟩ := pick dC ls (N / 12) hpos
  rw [h4] at ex ey
  have ex : L2.atI (ls.map dC) (N / 3 % 4) = some (dC x) := ex
  have ey : L2.atI (ls.map dC) (N / 12 % 4) = some (dC y) := ey
  have qa := eq_t0 (n := 0) D.str A (fun n hn => Sd.str fun c hc => isLet_lt ((hA n hn).2.2.1 c hc)) (by omega)
  have qb := eq_t0 (n := 0) D.str B (fun n hn => Sd.str fun c hc => isLet_lt ((hB n hn).2.2.1 c hc)) (by omega)
  have key : ∃ d, exSs (callN k) b_law_leaf [.p (.int N), .p (dTn A B), .p (.lst (ls.map dC)), .un, .un] s = some (.rt d s) ∧ ∃ r, d = dR r ∧ wf ⟨ls, A, B⟩ (pl r) ∧ sz (pl r) = 1 := by
    unfold b_law_leaf
    rw [exSs_nx (ρ' := [.p (.int N), .p (dTn A B), .p (.lst (ls.map dC)), .p (dC x), .un]) (s' := s) (by simp [ex])]
    rw [exSs_nx (ρ' := [.p (.int N), .p (dTn A B), .p (.lst (ls.map dC)), .p (dC x), .p (dC y)]) (s' := s) (by simp [ey])]
    by_cases c1 : N % 3 = 0 ∧ A ≠ []
    · obtain ⟨n, hn, en⟩ := pick D.str A (N / 48) (List.length_pos_iff.mpr c1.2)
      refine ⟨_, ?_, .mark n x, rfl, ⟨hn, hx⟩, rfl⟩
      rw [decide_eq_false c1.2] at qa
      have hAl : (A.map D.str).length = A.length := by simp
      have hAp : 0 < A.length := List.length_pos_iff.mpr c1.2
      rw [← hAl] at en hAp
      unfold dTn
      generalize A.map D.str = AD at *
      generalize B.map D.str = BD at *
      rw [exSs_rt (d := dR (.mark n x)) (s' := s) (by simp [c1.1, qa, en, hAp, dR, dS])]
    · by_cases c2 : N % 3 = 1 ∧ B ≠ []
      · obtain ⟨n, hn, en⟩ := pick D.str B (N / 48) (List.length_pos_iff.mpr c2.2)
        refine ⟨_, ?_, .arrow n x y, rfl, ⟨hn, hx, hy⟩, rfl⟩
        rw [decide_eq_false c2.2] at qb
        have hBl : (B.map D.str).length = B.length := by simp
        have hBp : 0 < B.length := List.length_pos_iff.mpr c2.2
        rw [← hBl] at en hBp
        have c3 : ¬ N % 3 = 0 := by omega
        unfold dTn
        generalize A.map D.str = AD at *
        generalize B.map D.str = BD at *
        rw [exSs_nx (ρ' := [.p (.int N), .p (.tup [.tup AD, .tup BD]), .p (.lst (ls.map dC)), .p (dC x), .p (dC y)]) (s' := s) (by simp [c3])]
        rw [exSs_rt (d := dR (.arrow n x y)) (s' := s) (by simp [c2.1, qb, en, hBp, dR, dS])]
      · refine ⟨_, ?_, .same x y, rfl, ⟨hx, hy⟩, rfl⟩
        have g1 : exS (callN k) (.iff (.and2 (.cmp .eq (.bin .mod (.var 0) (.int 3)) (.int 0)) (.cmp .ne (.ix (.var 1) (.int 0)) (.tup .nil))) (.cons (.ret (.tup (.cons (.str [109, 97, 114, 107]) (.cons (.ix (.ix (.var 1) (.int 0)) (.bin .mod (.bin .fdiv (.var 0) (.int 48)) (.b1 .len1 (.ix (.var 1) (.int 0))))) (.cons (.var 3) .nil))))) .nil) .nil) [.p (.int N), .p (dTn A B), .p (.lst (ls.map dC)), .p (dC x), .p (dC y)] s = some (.nx [.p (.int N), .p (dTn A B), .p (.lst (ls.map dC)), .p (dC x), .p (dC y)] s) := by
          by_cases c3 : N % 3 = 0
          · have c4 : A = [] := by
              by_cases z : A = []
              · exact z
              · exact absurd ⟨c3, z⟩ c1
            rw [decide_eq_true c4] at qa
            unfold dTn
            generalize A.map D.str = AD at *
            generalize B.map D.str = BD at *
            simp [c3, qa]
          · simp [c3]
        rw [exSs_nx g1]
        have g2 : exS (callN k) (.iff (.and2 (.cmp .eq (.bin .mod (.var 0) (.int 3)) (.int 1)) (.cmp .ne (.ix (.var 1) (.int 1)) (.tup .nil))) (.cons (.ret (.tup (.cons (.str [97, 114, 114, 111, 119]) (.cons (.ix (.ix (.var 1) (.int 1)) (.bin .mod (.bin .fdiv (.var 0) (.int 48)) (.b1 .len1 (.ix (.var 1) (.int 1))))) (.cons (.var 3) (.cons (.var 4) .nil)))))) .nil) .nil) [.p (.int N), .p (dTn A B), .p (.lst (ls.map dC)), .p (dC x), .p (dC y)] s = some (.nx [.p (.int N), .p (dTn A B), .p (.lst (ls.map dC)), .p (dC x), .p (dC y)] s) := by
          by_cases c3 : N % 3 = 1
          · have c4 : B = [] := by
              by_cases z : B = []
              · exact z
              · exact absurd ⟨c3, z⟩ c2
            rw [decide_eq_true c4] at qb
            unfold dTn
            generalize A.map D.str = AD at *
            generalize B.map D.str = BD at *
            simp [c3, qb]
          · simp [c3]
        rw [exSs_nx g2]
        simp [dR, dS]
  obtain ⟨d, h1, r, rfl, h2⟩ := key
  exact ⟨r, call_rt rfl h1, h2⟩
end
end Pk
end
section
-- PuGrow2
set_option linter.all false
set_option maxRecDepth 10000
/-! Sayings wrapped, joined, grown, run. -/
namespace Pk
open PySem
/-- what the stack holds -/
structure En3 where
  r : Rw
  a : Int
  h : Int
def dE (e : En3) : D := .tup [dR e.r, .int e.a, .int e.h]
def szE (es : List En3) : Nat := szL (es.map fun e => pl e.r)
def okE (V : Voc) (es : List En3) : Prop := ∀ e ∈ es, wf V (pl e.r)
theorem szL_app : ∀ (l m : List Sy), szL (l ++ m) = szL l + szL m
  | [], m => by simp [szL]
  | φ :: r, m => by
    have := szL_app r m
    simp only [List.cons_append, szL]
    omega
theorem szE_app (l m : List En3) : szE (l ++ m) = szE l + szE m := by
  unfold szE
  rw [List.map_append, szL_app]
theorem szE_one (e : En3) : szE [e] = sz (pl e.r) := by simp [szE, szL]
theorem sz_pos : ∀ φ : Sy, 1 ≤ sz φ
  | .mark _ _ => by simp [sz]
  | .arrow _ _ _ => by simp [sz]
  | .same _ _ => by simp [sz]
  | .neg _ => by simp [sz]
  | .jn _ _ => by simp [sz]
  | .qu _ _ _ => by simp [sz]
theorem len_szE : ∀ es : List En3, es.length ≤ szE es
  | [] => by simp
  | e :: r => by
    have := len_szE r
    have := sz_pos (pl e.r)
    simp only [szE, List.map_cons, szL, List.length_cons] at *
    omega
section
variable {s : Sh}
@[simp] theorem ix_E0 (e : En3) : ixD (dE e) (.int 0) = some (dR e.r) := by simp [dE]
@[simp] theorem ix_E1 (e : En3) : ixD (dE e) (.int 1) = some (.int e.a) := by simp [dE]
@[simp] theorem ix_E2 (e : En3) : ixD (dE e) (.int 2) = some (.int e.h) := by simp [dE]
theorem c_law_wrapped (k : Nat) (N : Int) (V : Voc) (h4 : V.lt.length = 4) (e : En3) (hw : wf V (pl e.r)) : ∃ e' : En3, callN (k + 1) .law_wrapped [.int N, .lst (V.lt.map dC), dE e] s = some (dE e', s) ∧ wf V (pl e'.r) ∧ sz (pl e'.r) = sz (pl e.r) + 1 := by
  obtain ⟨x, hx, ex⟩ := pick dC V.lt (N / 5) (by omega)
  rw [h4] at ex
  have ex : L2.atI (V.lt.map dC) (N / 5 % 4) = some (dC x) := ex
  have key : ∃ d, exSs (callN k) b_law_wrapped [.p (.int N), .p (.lst (V.lt.map dC)), .p (dE e), .un, .un, .un, .un] s = some (.rt d s) ∧ ∃ e' : En3, d = dE e' ∧ wf V (pl e'.r) ∧ sz (pl e'.r) = sz (pl e.r) + 1 := by
    unfold b_law_wrapped
    rw [exSs_nx (ρ' := [.p (.int N), .p (.lst (V.lt.map dC)), .p (dE e), .un, .p (dR e.r), .p (.int e.a), .p (.int e.h)]) (s' := s) (by simp [dE])]
    rw [exSs_nx (ρ' := [.p (.int N), .p (.lst (V.lt.map dC)), .p (dE e), .p (dC x), .p (dR e.r), .p (.int e.a), .p (.int e.h)]) (s' := s) (by simp [ex])]
    by_cases c1 : N % 5 = 0 ∨ 2 < e.a
    · refine ⟨_, ?_, ⟨.neg e.r, e.a, e.h + 1⟩, rfl, hw, rfl⟩
      rw [exSs_rt (d := dE ⟨.neg e.r, e.a, e.h + 1⟩) (s' := s) (by
        by_cases c2 : N % 5 = 0
        · simp [c2, dE, dR]
        · simp [c2, c1.resolve_left c2, dE, dR])]
    · have c2 : ¬ N % 5 = 0 := fun z => c1 (.inl z)
      have c3 : ¬ 2 < e.a := fun z => c1 (.inr z)
      rw [exSs_nx (ρ' := [.p (.int N), .p (.lst (V.lt.map dC)), .p (dE e), .p (dC x), .p (dR e.r), .p (.int e.a), .p (.int e.h)]) (s' := s) (by simp [c2, c3])]
      by_cases c4 : N % 5 = 4
      · obtain ⟨z, hz, ez⟩ := pick D.int [9, 3] (N / 200) (by simp)
        have ez : L2.atI [D.int 9, D.int 3] (N / 200 % 2) = some (.int z) := ez
        have hzp : 0 < z := by
          simp only [List.mem_cons, List.not_mem_nil, or_false] at hz
          omega
        refine ⟨_, ?_, ⟨.lea (1 + N / 20 % z) x e.r, e.a + 1, e.h + 1⟩, rfl, ⟨hx, hw⟩, rfl⟩
        rw [exSs_rt (d := dE ⟨.lea (1 + N / 20 % z) x e.r, e.a + 1, e.h + 1⟩) (s' := s) (by simp [c4, ez, hzp, dE, dR])]
      · rw [exSs_nx (ρ' := [.p (.int N), .p (.lst (V.lt.map dC)), .p (dE e), .p (dC x), .p (dR e.r), .p (.int e.a), .p (.int e.h)]) (s' := s) (by simp [c4])]
        have c5 : N % 2 = 0 ∨ N % 2 = 1 := by omega
        rcases c5 with c5 | c5
        · exact ⟨dE ⟨.qu true x e.r, e.a + 1, e.h + 1⟩, by simp [c5, dE, dR, wQ], ⟨.qu true x e.r, e.a + 1, e.h + 1⟩, rfl, ⟨hx, hw⟩, rfl⟩
        · exact ⟨dE ⟨.qu false x e.r, e.a + 1, e.h + 1⟩, by simp [c5, dE, dR, wQ], ⟨.qu false x e.r, e.a + 1, e.h + 1⟩, rfl, ⟨hx, hw⟩, rfl⟩
  obtain ⟨d, h1, e', rfl, h2⟩ := key
  exact ⟨e', call_rt rfl h1, h2⟩
theorem c_law_joined (k : Nat) (N : Int) (V : Voc) (es : List En3) (hl : es.length ≤ 7) (hw : okE V es) : ∃ e' : En3, callN (k + 1) .law_joined [.int N, .lst (es.map dE)] s = some (dE e', s) ∧ wf V (pl e'.r) ∧ sz (pl e'.r) ≤ szE es + 1 := by
  have hc : ∀ (i : Int) (G : En3 → D) (ρ : En), ρ[1]? = some (.p (.lst (es.map dE))) → 5 < ρ.length → noOwn ρ [5] = true → (∀ e, ixD (dE e) (.int i) = some (G e)) → evE (callN k) (.comp false (.ix (.var 5) (.int i)) (.one 5) (.val (.var 1)) (.bl true)) ρ s = some (.lst (es.map G), s) := fun i G ρ h1 h5 hn hG =>
    ev_comp_m (e := dE) (l := es) G (by simp [h1]) hn (by omega) (fun e he => ⟨_, rfl, by
      simp only [wipeE, evE, bor, List.set_set, tsl]
      rw [List.getElem?_set_self (by simpa using h5)]
      simp [hG]⟩)
  have m0 := fun ρ h1 h5 hn => hc 0 (fun e => dR e.r) ρ h1 h5 hn ix_E0
  have m1 := fun ρ h1 h5 hn => hc 1 (fun e => .int e.a) ρ h1 h5 hn ix_E1
  have m2 := fun ρ h1 h5 hn => hc 2 (fun e => .int e.h) ρ h1 h5 hn ix_E2
  have i1 : asInts (es.map fun e => D.int e.a) = some (es.map (·.a)) := by
    have := asInts_map (es.map (·.a))
    rwa [List.map_map] at this
  have i2 : asInts (es.map fun e => D.int e.h) = some (es.map (·.h)) := by
    have := asInts_map (es.map (·.h))
    rwa [List.map_map] at this
  have key : ∃ d, exSs (callN k) b_law_joined [.p (.int N), .p (.lst (es.map dE)), .un, .un, .un, .un] s = some (.rt d s) ∧ ∃ e' : En3, d = dE e' ∧ wf V (pl e'.r) ∧ sz (pl e'.r) ≤ szE es + 1 := by
    unfold b_law_joined
    obtain ⟨P, hP⟩ : ∃ P, es.map (fun e => dR e.r) = P := ⟨_, rfl⟩
    obtain ⟨Q1, hQ1⟩ : ∃ P, es.map (fun e => D.int e.a) = P := ⟨_, rfl⟩
    obtain ⟨Q2, hQ2⟩ : ∃ P, es.map (fun e => D.int e.h) = P := ⟨_, rfl⟩
    obtain ⟨E, hE⟩ : ∃ P, es.map dE = P := ⟨_, rfl⟩
    have hEl : E.length = es.length := by rw [← hE]; simp
    rw [hP, hE] at m0
    rw [hQ1, hE] at m1
    rw [hQ2, hE] at m2
    rw [hQ1] at i1
    rw [hQ2] at i2
    rw [hE]
    rw [exSs_nx (ρ' := [.p (.int N), .p (.lst E), .p (.tup P), .un, .un, .un]) (s' := s) (by
      have := m0 [.p (.int N), .p (.lst E), .un, .un, .un, .un] rfl (by simp) rfl
      simp [this])]
    rw [exSs_nx (ρ' := [.p (.int N), .p (.lst E), .p (.tup P), .p (.int (maxL (es.map (·.a)))), .un, .un]) (s' := s) (by
      have := m1 [.p (.int N), .p (.lst E), .p (.tup P), .un, .un, .un] rfl (by simp) rfl
      simp [this, i1])]
    rw [exSs_nx (ρ' := [.p (.int N), .p (.lst E), .p (.tup P), .p (.int (maxL (es.map (·.a)))), .p (.int (maxL (es.map (·.h)))), .un]) (s' := s) (by
      have := m2 [.p (.int N), .p (.lst E), .p (.tup P), .p (.int (maxL (es.map (·.a)))), .un, .un] rfl (by simp) rfl
      simp [this, i2])]
    by_cases c1 : es.length = 1
    · obtain ⟨e, rfl⟩ : ∃ e, es = [e] := List.length_eq_one_iff.mp c1
      subst hE
      refine ⟨dE e, ?_, e, rfl, hw e (by simp), ?_⟩
      · rw [exSs_rt (d := dE e) (s' := s) (by simp)]
      · rw [szE_one]; omega
    · have c1' : ¬ (E.length : Int) = 1 := by omega
      rw [exSs_nx (ρ' := [.p (.int N), .p (.lst E), .p (.tup P), .p (.int (maxL (es.map (·.a)))), .p (.int (maxL (es.map (·.h)))), .un]) (s' := s) (by simp [c1'])]
      have c5 : N % 2 = 0 ∨ N % 2 = 1 := by omega
      have hd : ∀ b, dR (.jn b (es.map (·.r))) = .tup [.str (wJ b), .tup P] := fun b => by
        rw [← hP]
        simp [dR, dRL_map]
      have hwf : ∀ b, wf V (pl (.jn b (es.map (·.r)))) := fun b => by
        simp only [pl, wf]
        rw [plL_map]
        refine ⟨by simp; omega, by simpa using c1, wfL_mem.mpr fun φ hφ => ?_⟩
        rw [List.map_map] at hφ
        obtain ⟨e, he, rfl⟩ := List.mem_map.mp hφ
        exact hw e he
      have hsz : ∀ b, sz (pl (.jn b (es.map (·.r)))) ≤ szE es + 1 := fun b => by
        simp only [pl, sz]
        rw [plL_map, List.map_map]
        exact Nat.le_refl _
      rcases c5 with c5 | c5
      · exact ⟨dE ⟨.jn true (es.map (·.r)), maxL (es.map (·.a)), maxL (es.map (·.h)) + 1⟩, by simp [c5, dE, hd, wJ], ⟨.jn true (es.map (·.r)), maxL (es.map (·.a)), maxL (es.map (·.h)) + 1⟩, rfl, hwf true, hsz true⟩
      · exact ⟨dE ⟨.jn false (es.map (·.r)), maxL (es.map (·.a)), maxL (es.map (·.h)) + 1⟩, by simp [c5, dE, hd, wJ], ⟨.jn false (es.map (·.r)), maxL (es.map (·.a)), maxL (es.map (·.h)) + 1⟩, rfl, hwf false, hsz false⟩
  obtain ⟨d, h1, e', rfl, h2⟩ := key
  exact ⟨e', call_rt rfl h1, h2⟩
end
end Pk
end
section
-- PuGrow3
set_option linter.all false
set_option maxRecDepth 10000
set_option maxHeartbeats 0
/-! Sayings grown, run. -/
namespace Pk
open PySem
theorem six_neg (n d m : Nat) (h : 1 ≤ m) : HT.sIx n d (some (-(m : Int))) = n - m := by
  show (if (-(m : Int)) < 0 then (-(m : Int) + n).toNat else min (-(m : Int)).toNat n) = _
  rw [if_pos (by omega)]
  omega
theorem cut_neg_to {α : Type} (xs : List α) (m : Nat) (h : 1 ≤ m) : cutL xs none (some (-(m : Int))) = xs.take (xs.length - m) := by
  unfold cutL
  rw [six_neg _ _ m h, HT.sIx_none]
  simp
theorem cut_neg_from {α : Type} (xs : List α) (m : Nat) (h : 1 ≤ m) : cutL xs (some (-(m : Int))) none = xs.drop (xs.length - m) := by
  unfold cutL
  rw [six_neg _ _ m h, HT.sIx_none]
  apply List.take_of_length_le
  simp
section
variable {s : Sh}
theorem sd_dE {V : Voc} (hV : Vn V) (e : En3) (h : wf V (pl e.r)) (h8 : sz (pl e.r) ≤ 20) : Sd 50 (dE e) := by
  refine Sd.mono (Sd.tup (n := 45) fun d hd => ?_) (by omega)
  simp only [List.mem_cons, List.not_mem_nil, or_false] at hd
  rcases hd with rfl | rfl | rfl
  · exact (sd_dR hV e.r h).mono (by omega)
  · exact Sd.int _
  · exact Sd.int _
theorem sz_szE {es : List En3} : ∀ e ∈ es, sz (pl e.r) ≤ szE es := fun e he => sz_mem _ (List.mem_map.mpr ⟨e, he, rfl⟩)
theorem c_law_grown (k : Nat) (V : Voc) (hV : Vn V) (h4 : V.lt.length = 4) (cs : List Int) (hc : cs.length ≤ 7) : ∃ r, callN (k + 2) .law_grown [.lst (cs.map .int), dTn V.tm V.ta, .lst (V.lt.map dC)] s = some (dR r, s) ∧ wf V (pl r) ∧ sz (pl r) ≤ 8 := by
  have key : ∃ d, exSs (callN (k + 1)) b_law_grown [.p (.lst (cs.map .int)), .p (dTn V.tm V.ta), .p (.lst (V.lt.map dC)), .un, .un, .un, .un, .un, .un] s = some (.rt d s) ∧ ∃ r, d = dR r ∧ wf V (pl r) ∧ sz (pl r) ≤ 8 := by
    have hw1 := fun N e hw => c_law_wrapped (s := s) k N V h4 e hw
    have hj1 := fun N es hl hw => c_law_joined (s := s) k N V es hl hw
    have hf1 := fun N => c_law_leaf (s := s) k N V.tm V.ta V.lt hV.tm hV.ta h4
    have hat : ∀ i : Nat, i < cs.length → ∃ c, L2.atI (cs.map D.int) (i : Int) = some (.int c) := fun i hi => by
      rw [atI_nat, List.getElem?_map, List.getElem?_eq_getElem hi]
      exact ⟨_, rfl⟩
    have hcl : (cs.map D.int).length = cs.length := by simp
    have hVe : (⟨V.lt, V.tm, V.ta⟩ : Voc) = V := rfl
    rw [hVe] at hf1
    generalize dTn V.tm V.ta = T at *
    generalize V.lt.map dC = LT at *
    generalize cs.map D.int = CS at *
    unfold b_law_grown
    rw [exSs_nx (ρ' := [.p (.lst CS), .p T, .p (.lst LT), .o (.lst []), .un, .un, .un, .un, .un]) (s' := s) (by simp)]
    refine run_preR .int (fun pre ρ => ∃ (es : List En3) (x4 x5 x6 x7 x8 : Sl), ρ = [.p (.lst CS), .p T, .p (.lst LT), .o (.lst (es.map dE)), x4, x5, x6, x7, x8] ∧ okE V es ∧ szE es ≤ pre.length) (rngI cs.length) (by simp [hcl, rng_I, smallOf (show (0 : Int) ≤ cs.length by omega) (by omega)]) ⟨[], .un, .un, .un, .un, .un, rfl, (fun e he => by cases he), by simp [szE, szL]⟩ (fun pre x post hpre ρ ⟨es, x4, x5, x6, x7, x8, e, hok, hsz⟩ => ?_) ?_
    · subst e
      have hx := rngI_at hpre
      have hlen := len_pre hpre
      rw [rngI_len] at hlen
      obtain ⟨c, hcx⟩ := hat pre.length (by omega)
      rw [← hx] at hcx
      have hel := len_szE es
      refine ⟨_, rfl, ?_⟩
      show ∃ ρ', exSs (callN (k + 1)) _ [.p (.lst CS), .p T, .p (.lst LT), .o (.lst (es.map dE)), .p (.int x), x5, x6, x7, x8] s = _ ∧ _
      obtain ⟨N, hN⟩ : ∃ N, (c % 2 ^ 64 + 613 * x) * 71993 % 998244353 = N := ⟨_, rfl⟩
      have hN' : (c % 18446744073709551616 + 613 * x) * 71993 % 998244353 = N := by rw [← hN]; rfl
      have hmq : (-(2 ^ 64) < (c % 18446744073709551616 + 613 * x) ∧ (c % 18446744073709551616 + 613 * x) < 2 ^ 64) ∨ (-(2 ^ 64) < (71993 : Int) ∧ (71993 : Int) < 2 ^ 64) := .inr (by decide)
      have hq := eq_l0 dE es (fun e he => sd_dE hV e (hok e he) (by have := sz_szE e he; omega)) (by omega)
      -- what is common
      have fin : ∀ (es' : List En3) (x5 x6 x7 x8 : Sl), okE V es' → szE es' ≤ pre.length + 1 → ∃ (es'' : List En3) (x4 x5' x6' x7' x8' : Sl), ([.p (.lst CS), .p T, .p (.lst LT), .o (.lst (es'.map dE)), .p (.int x), x5, x6, x7, x8] : En) = [.p (.lst CS), .p T, .p (.lst LT), .o (.lst (es''.map dE)), x4, x5', x6', x7', x8'] ∧ okE V es'' ∧ szE es'' ≤ (pre ++ [x]).length := fun es' x5 x6 x7 x8 h1 h2 => ⟨es', _, x5, x6, x7, x8, rfl, h1, by simpa using h2⟩
      rw [exSs_nx (ρ' := [.p (.lst CS), .p T, .p (.lst LT), .o (.lst (es.map dE)), .p (.int x), .p (.int N), x6, x7, x8]) (s' := s) (by
        generalize es.map dE = ES at *
        simp [hcx, hN'])]
      rw [exSs_nx (ρ' := [.p (.lst CS), .p T, .p (.lst LT), .o (.lst (es.map dE)), .p (.int x), .p (.int N), .p (.int (N % 7)), x7, x8]) (s' := s) (by simp)]
      rw [exSs_nx (ρ' := [.p (.lst CS), .p T, .p (.lst LT), .o (.lst (es.map dE)), .p (.int x), .p (.int N), .p (.int (N % 7)), .p (.int (N / 7)), x8]) (s' := s) (by simp)]
      obtain ⟨y, hy⟩ : ∃ y, N % 7 = y := ⟨_, rfl⟩
      obtain ⟨R, hR⟩ : ∃ R, N / 7 = R := ⟨_, rfl⟩
      rw [hy, hR]
      clear hy hR hN hN' hmq
      -- leaf?
      obtain ⟨C, hC, hCe⟩ : ∃ C, evE (callN (k + 1)) (.or2 (.cmp .eq (.var 3) (.lst .nil)) (.or2 (.cmp .lt (.var 6) (.int 3)) (.cmp .gt (.ix (.ix (.var 3) (.neg (.int 1))) (.int 2)) (.int 11)))) [.p (.lst CS), .p T, .p (.lst LT), .o (.lst (es.map dE)), .p (.int x), .p (.int N), .p (.int y), .p (.int R), x8] s = some (.bl C, s) ∧ (C = false → es ≠ []) := by
        by_cases c1 : es = []
        · rw [decide_eq_true c1] at hq
          generalize es.map dE = ES at *
          exact ⟨true, by simp [hq], by simp⟩
        · rw [decide_eq_false c1] at hq
          obtain ⟨ini, la, rfl⟩ : ∃ ini la, es = ini ++ [la] := ⟨es.dropLast, es.getLast c1, (List.dropLast_concat_getLast c1).symm⟩
          have hla : L2.atI ((ini ++ [la]).map dE) (-1) = some (dE la) := by
            rw [List.map_append]
            exact atI_last _ _
          generalize (ini ++ [la]).map dE = ES at *
          by_cases c2 : y < 3
          · exact ⟨true, by simp [hq, c2], by simp⟩
          · by_cases c3 : 11 < la.h
            · exact ⟨true, by simp [hq, c2, hla, c3], by simp⟩
            · exact ⟨false, by simp [hq, c2, hla, c3], fun _ => by simp⟩
      cases C with
      | true =>
        obtain ⟨r, hr1, hr2, hr3⟩ := hf1 R
        have hal : (es.map dE).length < 16777216 := by simp; omega
        rw [exSs_nx (ρ' := [.p (.lst CS), .p T, .p (.lst LT), .o (.lst ((es ++ [(⟨r, 0, 0⟩ : En3)]).map dE)), .p (.int x), .p (.int N), .p (.int y), .p (.int R), x8]) (s' := s) (by
          rw [exS.eq_def]
          simp only [hC]
          rw [List.map_append]
          generalize es.map dE = ES at *
          simp [hr1, hal, dE])]
        refine ⟨_, rfl, fin _ _ _ _ _ (fun e he => ?_) ?_⟩
        · rcases List.mem_append.mp he with he | he
          · exact hok e he
          · rw [List.mem_singleton.mp he]
            exact hr2
        · rw [szE_app, szE_one]
          simp only [hr3]
          omega
      | false =>
        have hne := hCe rfl
        obtain ⟨ini, la, hes⟩ : ∃ ini la, es = ini ++ [la] := ⟨es.dropLast, es.getLast hne, (List.dropLast_concat_getLast hne).symm⟩
        have hlast : L2.atI (es.map dE) (-1) = some (dE la) := by
          rw [hes, List.map_append]
          exact atI_last _ _
        have hcut1 : cutL (es.map dE) none (some (-1)) = ini.map dE := by
          rw [hes, List.map_append]
          exact cut_init _ _
        have hEl : (es.map dE).length = es.length := by simp
        have hszl : szE es = szE ini + sz (pl la.r) := by rw [hes, szE_app, szE_one]
        have hinl : ini.length ≤ es.length := by rw [hes]; simp
        have hoki : okE V ini := fun e he => hok e (by rw [hes]; simp [he])
        have hokl : wf V (pl la.r) := hok la (by rw [hes]; simp)
        by_cases c2 : y = 3 ∧ 1 < es.length
        · -- joined
          obtain ⟨m, hm, hm2⟩ := mod_nat (R / 2) 2 (by decide)
          have hm : R / 2 % 2 = (m : Int) := hm
          have e2 : (2 + (m : Int)) = ((2 + m : Nat) : Int) := by omega
          have t1 := cut_neg_to (es.map dE) (2 + m) (by omega)
          have t2 := cut_neg_from (es.map dE) (2 + m) (by omega)
          rw [hEl, ← List.map_take] at t1
          rw [hEl, ← List.map_drop] at t2
          rw [← e2] at t1 t2
          obtain ⟨e', hj, hjw, hjs⟩ := hj1 R (es.drop (es.length - (2 + m))) (by simp; omega) (fun e he => hok e (List.mem_of_mem_drop he))
          have hsp : szE (es.take (es.length - (2 + m))) + szE (es.drop (es.length - (2 + m))) = szE es := by rw [← szE_app, List.take_append_drop]
          have hsz1 : ((es.take (es.length - (2 + m))).map dE).length + 1 ≤ 16777216 := by simp; omega
          rw [exSs_nx (ρ' := [.p (.lst CS), .p T, .p (.lst LT), .o (.lst ((es.take (es.length - (2 + m)) ++ [e']).map dE)), .p (.int x), .p (.int N), .p (.int y), .p (.int R), .p (.int (2 + m))]) (s' := s) (by
            rw [exS.eq_def]
            simp only [hC]
            rw [List.map_append]
            have c2b : (1 : Int) < ((es.map dE).length : Nat) := by rw [hEl]; omega
            generalize (es.take (es.length - (2 + m))).map dE = TK at *
            generalize (es.drop (es.length - (2 + m))).map dE = DR at *
            generalize es.map dE = ES at *
            simp [c2.1, c2b, hm, t1, t2, hj, hsz1])]
          refine ⟨_, rfl, fin _ _ _ _ _ (fun e he => ?_) ?_⟩
          · rcases List.mem_append.mp he with he | he
            · exact hok e (List.mem_of_mem_take he)
            · rw [List.mem_singleton.mp he]
              exact hjw
          · rw [szE_app, szE_one]
            omega
        · have c2f : evE (callN (k + 1)) (.and2 (.cmp .eq (.var 6) (.int 3)) (.cmp .gt (.b1 .len1 (.var 3)) (.int 1))) [.p (.lst CS), .p T, .p (.lst LT), .o (.lst (es.map dE)), .p (.int x), .p (.int N), .p (.int y), .p (.int R), x8] s = some (.bl false, s) := by
            by_cases c3 : y = 3
            · have c4 : ¬ 1 < es.length := fun z => c2 ⟨c3, z⟩
              have c4b : ¬ (1 : Int) < ((es.map dE).length : Nat) := by rw [hEl]; omega
              clear c4
              generalize es.map dE = ES at *
              simp [c3, c4b]
            · generalize es.map dE = ES at *
              simp [c3]
          by_cases c5 : y = 4 ∧ R % 4 = 0
          · have hal : (es.map dE).length < 16777216 := by simp; omega
            have c6 : R / 4 % 2 = 0 ∨ R / 4 % 2 = 1 := by omega
            have hnl : ∀ b, okE V (es ++ [(⟨.jn b [], 0, 0⟩ : En3)]) := fun b e he => by
              rcases List.mem_append.mp he with he | he
              · exact hok e he
              · rw [List.mem_singleton.mp he]
                simp [pl, plL, wf, wfL]
            have hns : ∀ b, szE (es ++ [(⟨.jn b [], 0, 0⟩ : En3)]) ≤ pre.length + 1 := fun b => by
              rw [szE_app, szE_one]
              simp only [pl, plL, sz, szL]
              omega
            rcases c6 with c6 | c6
            · rw [exSs_nx (ρ' := [.p (.lst CS), .p T, .p (.lst LT), .o (.lst ((es ++ [(⟨.jn true [], 0, 0⟩ : En3)]).map dE)), .p (.int x), .p (.int N), .p (.int y), .p (.int R), x8]) (s' := s) (by
                rw [exS.eq_def]
                simp only [hC]
                rw [seq_iff, exS.eq_def]
                simp only [c2f]
                rw [List.map_append]
                generalize es.map dE = ES at *
                simp [c5, c6, hal, dE, dR, dRL, wJ])]
              exact ⟨_, rfl, fin _ _ _ _ _ (hnl true) (hns true)⟩
            · rw [exSs_nx (ρ' := [.p (.lst CS), .p T, .p (.lst LT), .o (.lst ((es ++ [(⟨.jn false [], 0, 0⟩ : En3)]).map dE)), .p (.int x), .p (.int N), .p (.int y), .p (.int R), x8]) (s' := s) (by
                rw [exS.eq_def]
                simp only [hC]
                rw [seq_iff, exS.eq_def]
                simp only [c2f]
                rw [List.map_append]
                generalize es.map dE = ES at *
                simp [c5, c6, hal, dE, dR, dRL, wJ])]
              exact ⟨_, rfl, fin _ _ _ _ _ (hnl false) (hns false)⟩
          · obtain ⟨e', hw, hww, hws⟩ := hw1 R la hokl
            have c7 : evE (callN (k + 1)) (.and2 (.cmp .eq (.var 6) (.int 4)) (.cmp .eq (.bin .mod (.var 7) (.int 4)) (.int 0))) [.p (.lst CS), .p T, .p (.lst LT), .o (.lst (es.map dE)), .p (.int x), .p (.int N), .p (.int y), .p (.int R), x8] s = some (.bl false, s) := by
              by_cases c8 : y = 4
              · have c9 : ¬ R % 4 = 0 := fun z => c5 ⟨c8, z⟩
                simp [c8, c9]
              · simp [c8]
            have hsz1 : (ini.map dE).length + 1 ≤ 16777216 := by simp; omega
            rw [exSs_nx (ρ' := [.p (.lst CS), .p T, .p (.lst LT), .o (.lst ((ini ++ [e']).map dE)), .p (.int x), .p (.int N), .p (.int y), .p (.int R), x8]) (s' := s) (by
              rw [exS.eq_def]
              simp only [hC]
              rw [seq_iff, exS.eq_def]
              simp only [c2f]
              rw [seq_iff, exS.eq_def]
              simp only [c7]
              rw [List.map_append]
              generalize ini.map dE = IN at *
              generalize es.map dE = ES at *
              simp [hcut1, hlast, hw, hsz1])]
            refine ⟨_, rfl, fin _ _ _ _ _ (fun e he => ?_) ?_⟩
            · rcases List.mem_append.mp he with he | he
              · exact hoki e he
              · rw [List.mem_singleton.mp he]
                exact hww
            · rw [szE_app, szE_one]
              omega
    · rintro ρ ⟨es, x4, x5, x6, x7, x8, rfl, hok, hsz⟩
      rw [rngI_len] at hsz
      have hel := len_szE es
      obtain ⟨e', hj, hjw, hjs⟩ := hj1 (CS.length : Nat) es (by omega) hok
      refine ⟨dR e'.r, ?_, e'.r, rfl, hjw, by omega⟩
      rw [exSs_nx (ρ' := [.p (.lst CS), .p T, .p (.lst LT), .p (.lst (es.map dE)), x4, x5, x6, x7, x8]) (s' := s) (by simp)]
      generalize es.map dE = ES at *
      simp [hj]
  obtain ⟨d, h1, r, rfl, h2⟩ := key
  exact ⟨r, call_rt rfl h1, h2⟩
end
end Pk
end
section
-- PuGrow4
set_option linter.all false
set_option maxRecDepth 10000
/-! Sayings made plain, closed, run. -/
namespace Pk
open PySem
section
variable {s : Sh}
theorem c_law_plain : ∀ (m : Nat) (r : Rw), sz (pl r) ≤ m → m ≤ 20 → ∀ {V : Voc}, wf V (pl r) → ∀ k, m + 1 ≤ k → callN k .law_plain [dR r] s = some (dS (pl r), s)
  | m, r, hm, hm2, V, hw, k, hk => by
    obtain ⟨j, rfl⟩ : ∃ j, k = j + 1 := ⟨k - 1, by omega⟩
    have hm1 : 1 ≤ m := by have := sz_pos (pl r); omega
    refine call_rt rfl ?_
    cases r with
    | mark n l => simp [b_law_plain, dR, dS, pl]
    | arrow n l m' => simp [b_law_plain, dR, dS, pl]
    | same l m' => simp [b_law_plain, dR, dS, pl]
    | neg r =>
      simp only [pl, sz] at hm
      have := c_law_plain (m - 1) r (by omega) (by omega) (V := V) hw j (by omega)
      simp [b_law_plain, dR, dS, pl, this]
    | qu b c r =>
      simp only [pl, sz] at hm
      have := c_law_plain (m - 1) r (by omega) (by omega) (V := V) hw.2 j (by omega)
      cases b <;> simp [b_law_plain, dR, dS, pl, this, wQ]
    | lea n c r =>
      simp only [pl, sz] at hm
      have := c_law_plain (m - 1) r (by omega) (by omega) (V := V) hw.2 j (by omega)
      simp [b_law_plain, dR, dS, pl, this]
    | jn b l =>
      simp only [pl, sz] at hm
      simp only [pl, wf] at hw
      have hl7 : l.length ≤ 7 := by have := hw.1; rw [plL_map] at this; simpa using this
      have ih : ∀ r ∈ l, callN j .law_plain [dR r] s = some (dS (pl r), s) := fun r hr => by
        have h1 : pl r ∈ plL l := by rw [plL_map]; exact List.mem_map.mpr ⟨r, hr, rfl⟩
        have h2 := sz_mem _ h1
        exact c_law_plain (m - 1) r (by omega) (by omega) (V := V) (wfL_mem.mp hw.2.2 _ h1) j (by omega)
      have hcm : evE (callN j) (.comp false (.call .law_plain (.cons (.var 1) .nil)) (.one 1) (.val (.ix (.var 0) (.int 1))) (.bl true)) [.p (dR (.jn b l)), .un] s = some (.lst (l.map fun r => dS (pl r)), s) := by
        refine ev_comp_m (e := dR) (l := l) (fun r => dS (pl r)) (by simp [dR, dRL_map]) (by simp) (by omega) (fun r hr => ⟨_, rfl, ?_⟩)
        have := ih r hr
        simp [this]
      have hS : dS (pl (.jn b l)) = .tup [.str (wJ b), .tup (l.map fun r => dS (pl r))] := by
        simp only [pl, dS, dSL_map, plL_map, List.map_map]
        rfl
      have h0 : ixD (dR (.jn b l)) (.int 0) = some (.str (wJ b)) := by simp [dR]
      rw [hS]
      show exSs (callN j) b_law_plain [.p (dR (.jn b l)), .un] s = _
      generalize (l.map fun r => dS (pl r)) = U at *
      generalize dR (.jn b l) = T at *
      cases b <;> simp [wJ] at h0 ⊢ <;> simp [b_law_plain, h0, hcm]
termination_by m => m
decreasing_by all_goals omega
theorem c_law_closed (k : Nat) (V : Voc) (h4 : V.lt.length ≤ 4) (φ : Sy) (hw : wf V φ) (h8 : sz φ ≤ 12) (N : Int) : ∃ ψ, callN (k + 16) .law_closed [dS φ, .int N] s = some (dS ψ, s) ∧ wf V ψ ∧ fr ψ = [] ∧ sz ψ ≤ sz φ + 4 := by
  obtain ⟨L, hL, hnd, hm⟩ := c_free_of (s := s) h4 (hg φ) φ (Nat.le_refl _) hw (k + 15) (by have := hg_sz φ; omega)
  have hL4 : L.length ≤ 4 := Nat.le_trans (nodup_len hnd (fun c hc => fr_sub (hg φ) φ (Nat.le_refl _) hw c ((hm c).mp hc))) h4
  have key : ∃ d, exSs (callN (k + 15)) b_law_closed [.p (dS φ), .p (.int N), .un] s = some (.rt d s) ∧ ∃ ψ, d = dS ψ ∧ wf V ψ ∧ fr ψ = [] ∧ sz ψ ≤ sz φ + 4 := by
    unfold b_law_closed
    refine run_preR dC (fun pre ρ => ∃ (ψ : Sy) (M : Int) (x2 : Sl), ρ = [.p (dS ψ), .p (.int M), x2] ∧ wf V ψ ∧ (∀ c, c ∈ fr ψ ↔ c ∈ fr φ ∧ c ∉ pre) ∧ sz ψ = sz φ + pre.length) L (by simp [hL]) ⟨φ, N, .un, rfl, hw, by simp, rfl⟩ (fun pre c post hpre ρ ⟨ψ, M, x2, e, hw2, hf, hs⟩ => ?_) ?_
    · subst e
      have hc : c ∈ V.lt := fr_sub (hg φ) φ (Nat.le_refl _) hw c ((hm c).mp (by rw [hpre]; simp))
      refine ⟨_, rfl, ?_⟩
      have c5 : M % 2 = 0 ∨ M % 2 = 1 := by omega
      have hfr : ∀ b a, a ∈ fr (.qu b c ψ) ↔ a ∈ fr φ ∧ a ∉ pre ++ [c] := fun b a => by
        simp only [fr, List.mem_filter, hf, List.mem_append, List.mem_singleton, bne_iff_ne]
        constructor
        · rintro ⟨⟨h1, h2⟩, h3⟩
          exact ⟨h1, fun z => z.elim h2 h3⟩
        · rintro ⟨h1, h2⟩
          exact ⟨⟨h1, fun z => h2 (.inl z)⟩, fun z => h2 (.inr z)⟩
      rcases c5 with c5 | c5
      · exact ⟨[.p (dS (.qu true c ψ)), .p (.int (M / 2 + 3)), .p (dC c)], by simp [c5, dS], .qu true c ψ, M / 2 + 3, .p (dC c), rfl, ⟨hc, hw2⟩, hfr true, by simp [sz]; omega⟩
      · exact ⟨[.p (dS (.qu false c ψ)), .p (.int (M / 2 + 3)), .p (dC c)], by simp [c5, dS], .qu false c ψ, M / 2 + 3, .p (dC c), rfl, ⟨hc, hw2⟩, hfr false, by simp [sz]; omega⟩
    · rintro ρ ⟨ψ, M, x2, rfl, hw2, hf, hs⟩
      refine ⟨dS ψ, by simp, ψ, rfl, hw2, ?_, by omega⟩
      apply List.eq_nil_iff_forall_not_mem.mpr
      intro c hc
      have := (hf c).mp hc
      exact this.2 ((hm c).mpr this.1)
  obtain ⟨d, h1, ψ, rfl, h2⟩ := key
  exact ⟨ψ, call_rt rfl h1, h2⟩
end
end Pk
end
section
-- PuDesk
set_option linter.all false
set_option maxRecDepth 10000
/-! The desk's rows, run. -/
namespace Pk
open PySem
def tl4 : MSs → MSs
  | .cons _ (.cons _ (.cons _ (.cons _ r))) => r
  | r => r
section
variable {s : Sh}
theorem c_world_of (k : Nat) (n : List Nat) (d : D) (h : lookS n s = some d) : callN (k + 1) .desk_world_of [.desk, .str n] s = some (d, s) := by
  refine call_rt rfl ?_
  simp [b_desk_world_of, h]
/-- what a word may be under a sign -/
def fitW (p : Nat × List Nat) : Prop := if p.1 = 70 then ∃ c, p.2 = [c] ∧ 48 ≤ c ∧ c ≤ 57 else okName p.2
theorem in_longer (w : List Nat) (h : ∀ c ∈ w, c < 1114112) : inD (.str w) (globD .LONGER) = some (decide (w ∈ ([[119, 111, 114, 108, 100], [115, 97, 121]] : List (List Nat)))) := by
  obtain ⟨c, h1, h2⟩ := in_tup (n := 0) (m := 0) (x := .str w) (l := ([[119, 111, 114, 108, 100], [115, 97, 121]] : List (List Nat)).map .str) (Sd.str h) (fun d hd => by
    obtain ⟨m, hm, rfl⟩ := List.mem_map.mp hd
    refine Sd.str ?_
    simp only [List.mem_cons, List.not_mem_nil, or_false] at hm
    rcases hm with rfl | rfl <;> simp) (by omega) (by omega)
  refine some_dec h1 ?_
  rw [h2, List.mem_map]
  constructor
  · rintro ⟨m, hm, e⟩
    injection e with e
    rw [← e]
    exact hm
  · exact fun h => ⟨w, h, rfl⟩
theorem c_fits (k : Nat) (w0 F : List Nat) (ws : List (List Nat)) (h0 : ∀ c ∈ w0, c < 1114112) (hF : lookS w0 formsD = some F) (hFl : F.length ≤ 3) (hl : F.length ≤ ws.length) (hL : decide (ws.length = F.length) ≠ decide (w0 ∈ ([[119, 111, 114, 108, 100], [115, 97, 121]] : List (List Nat)))) (hw : ∀ p ∈ F.zip ws, fitW p) :
    callN (k + 2) .fits_form [.lst (.str w0 :: ws.map .str)] s = some (.bl true, s) := by
  refine call_rt rfl ?_
  show exSs (callN (k + 1)) b_fits_form [.p (.lst (.str w0 :: ws.map .str)), .un, .un, .un] s = _
  unfold b_fits_form
  have hin := in_longer w0 h0
  have hlen : (ws.map D.str).length = ws.length := by simp
  have hcf : cutL (D.str w0 :: ws.map D.str) (some 1) none = ws.map D.str := by
    have := cut_from (D.str w0 :: ws.map D.str) 1
    simp only [List.drop_one, List.tail_cons] at this
    exact this
  have g1 : ¬ ((ws.map D.str).length : Int) + 1 < F.length + 1 := by rw [hlen]; omega
  have g0 : F.length ≤ 16777216 := by omega
  have g2 : decide (((ws.map D.str).length : Int) + 1 = F.length + 1) = decide (ws.length = F.length) := by
    rw [hlen]
    simp
    omega
  have hz : zipD (F.map fun c => .str [c]) (ws.map .str) = (F.zip ws).map fun p => .tup [.str [p.1], .str p.2] := zipD_map _ _ _ _
  generalize ws.map D.str = WS at *
  rw [exSs_nx (ρ' := [.p (.lst (.str w0 :: WS)), .p (.str F), .un, .un]) (s' := s) (by simp [hF])]
  rw [exSs_nx (ρ' := [.p (.lst (.str w0 :: WS)), .p (.str F), .un, .un]) (s' := s) (by simp [g0, g1])]
  rw [exSs_nx (ρ' := [.p (.lst (.str w0 :: WS)), .p (.str F), .un, .un]) (s' := s) (by
    have hc : evE (callN (k + 1)) (.cmp .eq (.cmp .eq (.b1 .len1 (.var 0)) (.bin .add (.b1 .len1 (.var 1)) (.int 1))) (.cmp .isin (.ix (.var 0) (.int 0)) (.glo .LONGER))) [.p (.lst (.str w0 :: WS)), .p (.str F), .un, .un] s = some (.bl false, s) := by
      have e1 : evE (callN (k + 1)) (.cmp .eq (.b1 .len1 (.var 0)) (.bin .add (.b1 .len1 (.var 1)) (.int 1))) [.p (.lst (.str w0 :: WS)), .p (.str F), .un, .un] s = some (.bl (decide (ws.length = F.length)), s) := by
        rw [← g2]
        simp [g0]
      have e2 : evE (callN (k + 1)) (.cmp .isin (.ix (.var 0) (.int 0)) (.glo .LONGER)) [.p (.lst (.str w0 :: WS)), .p (.str F), .un, .un] s = some (.bl (decide (w0 ∈ ([[119, 111, 114, 108, 100], [115, 97, 121]] : List (List Nat)))), s) := by
        simp only [evE, bor]
        simp only [List.getElem?_cons_zero, ix_l, atI_0, Option.map_some, cmp_in, hin]
      rw [evE.eq_def]
      simp only [bor, e1, e2, cmp_eq, eq_bb, Option.map_some]
      rw [decide_eq_false hL]
    rw [exS.eq_def]
    simp only [hc]
    rfl)]
  refine run_pre (fun p : Nat × List Nat => .tup [.str [p.1], .str p.2]) (fun pre ρ => ∃ x2 x3 : Sl, ρ = [.p (.lst (.str w0 :: WS)), .p (.str F), x2, x3]) (F.zip ws) (by simp [hcf, hz]) ⟨.un, .un, rfl⟩ (fun pre p post hpre ρ ⟨x2, x3, e⟩ => ?_) ?_
  · subst e
    have hp : p ∈ F.zip ws := by rw [hpre]; simp
    have hf := hw p hp
    refine ⟨_, rfl, [.p (.lst (.str w0 :: WS)), .p (.str F), .p (.str [p.1]), .p (.str p.2)], ?_, _, _, rfl⟩
    show exSs (callN (k + 1)) _ [.p (.lst (.str w0 :: WS)), .p (.str F), .p (.str [p.1]), .p (.str p.2)] s = _
    unfold fitW at hf
    by_cases h7 : p.1 = 70
    · rw [if_pos h7] at hf
      obtain ⟨c, hc, h1, h2⟩ := hf
      have hm := mem_FIG.mpr ⟨h1, h2⟩
      simp only [List.mem_cons, List.not_mem_nil, or_false] at hm
      simp [h7, hc, hm]
    · rw [if_neg h7] at hf
      have hn := c_is_name (s := s) k p.2 hf
      simp [h7, hn]
  · rintro ρ ⟨x2, x3, rfl⟩
    simp
/-- a row up to its worlds -/
theorem c_say (k : Nat) (row w0 F : List Nat) (ws : List (List Nat)) (L : List Nat → D) (X : Option (D × Sh)) (hrow : spl row [32] = w0 :: ws) (hlr : row.length ≤ 100000) (h0 : ∀ c ∈ w0, c < 1114112) (hF : lookS w0 formsD = some F) (hFl : F.length ≤ 3) (hl : F.length ≤ ws.length) (hL : decide (ws.length = F.length) ≠ decide (w0 ∈ ([[119, 111, 114, 108, 100], [115, 97, 121]] : List (List Nat)))) (hw : ∀ p ∈ F.zip ws, fitW p)
    (hlk : ∀ p ∈ F.zip ws, p.1 = 87 → lookS p.2 s = some (L p.2))
    (K : ∀ x4 x5 : Sl, outD (exSs (callN (k + 2)) (tl4 b_desk_say) [.p .desk, .p (.str row), .p (.lst (.str w0 :: ws.map .str)), .o (.lst (((F.zip ws).filter fun p => decide (p.1 = 87)).map fun p => L p.2)), x4, x5] s) = X) : callN (k + 3) .desk_say [.desk, .str row] s = X := by
  have hfit := c_fits (s := s) k w0 F ws h0 hF hFl hl hL hw
  have hsp := split_spl row [32] (by simp) hlr
  rw [hrow, List.map_cons] at hsp
  have hcf : cutL (D.str w0 :: ws.map D.str) (some 1) none = ws.map D.str := by
    have := cut_from (D.str w0 :: ws.map D.str) 1
    simp only [List.drop_one, List.tail_cons] at this
    exact this
  have hz : zipD (F.map fun c => .str [c]) (ws.map .str) = (F.zip ws).map fun p => .tup [.str [p.1], .str p.2] := zipD_map _ _ _ _
  rw [callN, if_pos (show [D.desk, D.str row].length = np .desk_say from rfl)]
  show outD (exSs (callN (k + 2)) b_desk_say [.p .desk, .p (.str row), .un, .un, .un, .un] s) = _
  generalize ws.map D.str = WS at *
  suffices h : ∃ x4 x5 : Sl, exSs (callN (k + 2)) b_desk_say [.p .desk, .p (.str row), .un, .un, .un, .un] s = exSs (callN (k + 2)) (tl4 b_desk_say) [.p .desk, .p (.str row), .p (.lst (.str w0 :: WS)), .o (.lst (((F.zip ws).filter fun p => decide (p.1 = 87)).map fun p => L p.2)), x4, x5] s by
    obtain ⟨x4, x5, h⟩ := h
    rw [h]
    exact K x4 x5
  show ∃ x4 x5 : Sl, _ = exSs (callN (k + 2)) (tl4 b_desk_say) _ s
  unfold b_desk_say tl4
  simp only []
  rw [exSs_nx (ρ' := [.p .desk, .p (.str row), .un, .un, .un, .un]) (s' := s) (by simp [hsp, hfit])]
  rw [exSs_nx (ρ' := [.p .desk, .p (.str row), .p (.lst (.str w0 :: WS)), .un, .un, .un]) (s' := s) (by simp [hsp])]
  rw [exSs_nx (ρ' := [.p .desk, .p (.str row), .p (.lst (.str w0 :: WS)), .o (.lst []), .un, .un]) (s' := s) (by simp)]
  have hfor : ∃ ρ', exS (callN (k + 2)) (.for_ (.many [4, 5]) (.zip (.fix (.ix (.var 2) (.int 0))) (.sl (.var 2) (.ok (.int 1)) .no)) (.cons (.iff (.cmp .eq (.var 4) (.str [87])) (.cons (.app 3 (.meth .desk_world_of (.var 0) (.cons (.var 5) .nil))) .nil) .nil) .nil)) [.p .desk, .p (.str row), .p (.lst (.str w0 :: WS)), .o (.lst []), .un, .un] s = some (.nx ρ' s) ∧ ∃ x4 x5 : Sl, ρ' = [.p .desk, .p (.str row), .p (.lst (.str w0 :: WS)), .o (.lst (((F.zip ws).filter fun p => decide (p.1 = 87)).map fun p => L p.2)), x4, x5] := by
    refine ex_pre (fun p : Nat × List Nat => .tup [.str [p.1], .str p.2]) (fun pre ρ => ∃ x4 x5 : Sl, ρ = [.p .desk, .p (.str row), .p (.lst (.str w0 :: WS)), .o (.lst ((pre.filter fun p => decide (p.1 = 87)).map fun p => L p.2)), x4, x5]) (F.zip ws) [] (by simp [hcf, hz, hF]) ⟨.un, .un, rfl⟩ (fun pre p post hpre ρ ⟨x4, x5, e⟩ => ?_)
    subst e
    rw [List.nil_append]
    have hp : p ∈ F.zip ws := by rw [hpre]; simp
    have hlen := len_pre hpre
    rw [List.length_zip] at hlen
    obtain ⟨acc, hacc⟩ : ∃ acc, ((pre.filter fun p => decide (p.1 = 87)).map fun p => L p.2) = acc := ⟨_, rfl⟩
    have hal : acc.length < 16777216 := by
      have := List.length_filter_le (fun p : Nat × List Nat => decide (p.1 = 87)) pre
      rw [← hacc, List.length_map]
      omega
    by_cases h7 : p.1 = 87
    · have := c_world_of (s := s) (k + 1) p.2 (L p.2) (hlk p hp h7)
      refine ⟨_, rfl, [.p .desk, .p (.str row), .p (.lst (.str w0 :: WS)), .o (.lst (acc ++ [L p.2])), .p (.str [p.1]), .p (.str p.2)], ?_, .p (.str [p.1]), .p (.str p.2), by simp [← hacc, List.filter_append, h7]⟩
      rw [hacc]
      simp [h7, this, hal]
    · refine ⟨_, rfl, [.p .desk, .p (.str row), .p (.lst (.str w0 :: WS)), .o (.lst acc), .p (.str [p.1]), .p (.str p.2)], ?_, .p (.str [p.1]), .p (.str p.2), by simp [← hacc, List.filter_append, h7]⟩
      rw [hacc]
      simp [h7]
  obtain ⟨ρ', h1, x4, x5, rfl⟩ := hfor
  rw [exSs_nx h1]
  exact ⟨x4, x5, rfl⟩
end
end Pk
end
section
-- PuRows
set_option linter.all false
set_option maxRecDepth 10000
/-! The desk's rows one by one. -/
namespace Pk
open PySem
section
variable {s : Sh}
def lk (s : Sh) (n : List Nat) : D := (lookS n s).getD .non
theorem lk_of {n : List Nat} {d : D} (h : lookS n s = some d) : lk s n = d := by simp [lk, h]
theorem join_spl (x : List Nat) (hl : x.length ≤ 100000) : joinD (.str [32]) (.lst ((spl x [32]).map .str)) = some (.str x) := by
  simp only [joinD, asStrs_map, Option.bind_some]
  have := spl_size x 1 (by omega)
  rw [if_pos (by simp; omega), spl_join]
theorem cut2 (a b : D) (l : List D) : cutL (a :: b :: l) (some 2) none = l := by
  have := cut_from (a :: b :: l) 2
  exact this
theorem row_world (k : Nat) (n : List Nat) (hn : okName n) (w : W) (h : GdW w) (hs : s.length < 1000) : callN (k + 12) .desk_say [.desk, .str ([119, 111, 114, 108, 100, 32] ++ n ++ [32] ++ wt w)] s = some (.str [111, 107], putS n (dW w) s) := by
  have hwl := wt_len h
  have n8 := hn.2.1
  have hn32 : 32 ∉ n := fun z => absurd (hn.2.2.1 _ z) (by decide)
  have hrow : spl ([119, 111, 114, 108, 100, 32] ++ n ++ [32] ++ wt w) [32] = [119, 111, 114, 108, 100] :: n :: spl (wt w) [32] := by
    have e : [119, 111, 114, 108, 100, 32] ++ n ++ [32] ++ wt w = [119, 111, 114, 108, 100] ++ [32] ++ (n ++ [32] ++ wt w) := by simp
    rw [e, spl_row _ _ (by decide), spl_row _ _ hn32]
  have hne := spl_ne (wt w) [32]
  have hlen : 1 ≤ (spl (wt w) [32]).length := List.length_pos_iff.mpr hne
  refine c_say (k + 9) _ [119, 111, 114, 108, 100] [78] (n :: spl (wt w) [32]) (lk s) _ hrow (by simp; omega) (by decide) rfl (by simp) (by simp) ?_ (fun p hp => ?_) (fun p hp h7 => ?_) (fun x4 x5 => ?_)
  · rw [decide_eq_false (by simp; omega)]
    decide
  · have : p = (78, n) := by simpa using hp
    rw [this]
    exact hn
  · have : p = (78, n) := by simpa using hp
    rw [this] at h7
    exact absurd h7 (by simp)
  · have hj := join_spl (wt w) (by omega)
    have hr := c_read_world (s := s) h (k + 4)
    generalize [119, 111, 114, 108, 100, 32] ++ n ++ [32] ++ wt w = row at *
    rw [List.map_cons]
    have hc := cut2 (D.str [119, 111, 114, 108, 100]) (.str n) ((spl (wt w) [32]).map .str)
    generalize (spl (wt w) [32]).map D.str = WS at *
    generalize wt w = t at *
    have hlk : lookS [119, 111, 114, 108, 100] formsD = some [78] := rfl
    simp [b_desk_say, tl4, hc, hj, hr, hs]
theorem row_beside (k : Nat) (n a b : List Nat) (hn : okName n) (ha : okName a) (hb : okName b) (f g : W) (hf : lookS a s = some (dW f)) (hg : lookS b s = some (dW g)) (gf : GdW f) (gg : GdW g) (t : Tg f g) (h8 : f.n + g.n ≤ 8) (hs : s.length < 1000) : callN (k + 12) .desk_say [.desk, .str ([98, 101, 115, 105, 100, 101, 32] ++ n ++ [32] ++ a ++ [32] ++ b)] s = some (.str [111, 107], putS n (dW (sumW f g)) s) := by
  have n8 := hn.2.1
  have a8 := ha.2.1
  have b8 := hb.2.1
  have hno : ∀ {x : List Nat}, okName x → 32 ∉ x := fun h z => absurd (h.2.2.1 _ z) (by decide)
  have hrow : spl ([98, 101, 115, 105, 100, 101, 32] ++ n ++ [32] ++ a ++ [32] ++ b) [32] = [98, 101, 115, 105, 100, 101] :: [n, a, b] := by
    have e : [98, 101, 115, 105, 100, 101, 32] ++ n ++ [32] ++ a ++ [32] ++ b = [98, 101, 115, 105, 100, 101] ++ [32] ++ (n ++ [32] ++ (a ++ [32] ++ b)) := by simp
    rw [e, spl_row _ _ (by decide), spl_row _ _ (hno hn), spl_row _ _ (hno ha), spl_one _ (hno hb)]
  refine c_say (k + 9) _ [98, 101, 115, 105, 100, 101] [78, 87, 87] [n, a, b] (lk s) _ hrow (by simp; omega) (by decide) rfl (by simp) (by simp) (by simp) (fun p hp => ?_) (fun p hp h7 => ?_) (fun x4 x5 => ?_)
  · have : p = (78, n) ∨ p = (87, a) ∨ p = (87, b) := by simpa using hp
    rcases this with rfl | rfl | rfl
    · exact hn
    · exact ha
    · exact hb
  · have : p = (78, n) ∨ p = (87, a) ∨ p = (87, b) := by simpa using hp
    rcases this with rfl | rfl | rfl
    · exact absurd h7 (by simp)
    · rw [lk_of hf]; exact hf
    · rw [lk_of hg]; exact hg
  · have hr := c_beside (s := s) (k + 8) gf gg t h8
    generalize [98, 101, 115, 105, 100, 101, 32] ++ n ++ [32] ++ a ++ [32] ++ b = row at *
    simp [b_desk_say, tl4, lk_of hf, lk_of hg, hr, hs]
theorem row_show (k : Nat) (n : List Nat) (hn : okName n) (w : W) (h : GdW w) (hw : lookS n s = some (dW w)) : callN (k + 12) .desk_say [.desk, .str ([115, 104, 111, 119, 32] ++ n)] s = some (.str (wt w), s) := by
  have n8 := hn.2.1
  have hn32 : 32 ∉ n := fun z => absurd (hn.2.2.1 _ z) (by decide)
  have hrow : spl ([115, 104, 111, 119, 32] ++ n) [32] = [115, 104, 111, 119] :: [n] := by
    have e : [115, 104, 111, 119, 32] ++ n = [115, 104, 111, 119] ++ [32] ++ n := by simp
    rw [e, spl_row _ _ (by decide), spl_one _ hn32]
  refine c_say (k + 9) _ [115, 104, 111, 119] [87] [n] (lk s) _ hrow (by simp; omega) (by decide) rfl (by simp) (by simp) (by simp) (fun p hp => ?_) (fun p hp h7 => ?_) (fun x4 x5 => ?_)
  · have : p = (87, n) := by simpa using hp
    rw [this]
    exact hn
  · have : p = (87, n) := by simpa using hp
    rw [this, lk_of hw]
    exact hw
  · have hr := c_show_world (s := s) h (k + 9)
    have h1 : callN (k + 11) .desk_about_one [.desk, .lst [.str [115, 104, 111, 119], .str n], dW w] s = some (.str (wt w), s) := by
      refine call_rt rfl ?_
      simp [b_desk_about_one, hr]
    generalize [115, 104, 111, 119, 32] ++ n = row at *
    simp [b_desk_say, tl4, lk_of hw, h1]
theorem row_say (k : Nat) (n : List Nat) (hn : okName n) (w : W) (h : GdW w) (hw : lookS n s = some (dW w)) (V : Voc) (hV : Vn V) (hT : VT V w) (hVW : VW V w) (h4 : V.lt.length ≤ 4) (φ : Sy) (hφ : wf V φ) (hc : fr φ = []) (hz : sz φ ≤ 13) : callN (k + 40) .desk_say [.desk, .str ([115, 97, 121, 32] ++ n ++ [32] ++ sh φ)] s = some (.str (if sem w φ (fun _ => 0) = true then [121, 101, 115] else [110, 111]), s) := by
  have n8 := hn.2.1
  have hg := hg_sz φ
  have hlen := sh_len hV φ hφ
  have hn32 : 32 ∉ n := fun z => absurd (hn.2.2.1 _ z) (by decide)
  have hrow : spl ([115, 97, 121, 32] ++ n ++ [32] ++ sh φ) [32] = [115, 97, 121] :: n :: spl (sh φ) [32] := by
    have e : [115, 97, 121, 32] ++ n ++ [32] ++ sh φ = [115, 97, 121] ++ [32] ++ (n ++ [32] ++ sh φ) := by simp
    rw [e, spl_row _ _ (by decide), spl_row _ _ hn32]
  have hne := spl_ne (sh φ) [32]
  have hlen1 : 1 ≤ (spl (sh φ) [32]).length := List.length_pos_iff.mpr hne
  refine c_say (k + 37) _ [115, 97, 121] [87] (n :: spl (sh φ) [32]) (lk s) _ hrow (by simp; omega) (by decide) rfl (by simp) (by simp) ?_ (fun p hp => ?_) (fun p hp h7 => ?_) (fun x4 x5 => ?_)
  · rw [decide_eq_false (by simp; omega)]
    decide
  · have : p = (87, n) := by simpa using hp
    rw [this]
    exact hn
  · have : p = (87, n) := by simpa using hp
    rw [this, lk_of hw]
    exact hw
  · have hj := join_spl (sh φ) (by omega)
    have hr := c_read_saying (s := s) hV φ hφ (by omega) (k + 38) (by omega)
    have hn1 := h.n1
    have hn8 := h.n8
    have hlm := h.lm
    have hla := h.la
    have hh := c_holds (s := s) hT hVW ⟨fun m hm c hc => isLet_lt ((h.nm m hm).2.2.1 c hc), fun m hm c hc => isLet_lt ((h.na m hm).2.2.1 c hc)⟩ (smallOf (by omega) (by omega)) (by omega) (by omega) h4 φ hφ hc (by omega) (k + 38) (by omega)
    have hc2 := cut2 (D.str [115, 97, 121]) (.str n) ((spl (sh φ) [32]).map .str)
    rw [List.map_cons]
    have h1 : callN (k + 39) .desk_about_one [.desk, .lst (.str [115, 97, 121] :: .str n :: (spl (sh φ) [32]).map .str), dW w] s = some (.str (if sem w φ (fun _ => 0) = true then [121, 101, 115] else [110, 111]), s) := by
      refine call_rt rfl ?_
      show exSs (callN (k + 38)) b_desk_about_one [.p .desk, .p (.lst (.str [115, 97, 121] :: .str n :: (spl (sh φ) [32]).map .str)), .p (dW w), .un] s = _
      generalize (spl (sh φ) [32]).map D.str = WS at *
      generalize sh φ = t at *
      cases hsem : sem w φ (fun _ => 0) <;> rw [hsem] at hh <;> simp [b_desk_about_one, hc2, hj, hr, hh]
    generalize [115, 97, 121, 32] ++ n ++ [32] ++ sh φ = row at *
    generalize (spl (sh φ) [32]).map D.str = WS at *
    simp [b_desk_say, tl4, lk_of hw, h1]
theorem in_l0 (lay : List PS) : inD (.tup []) (.lst (lay.map dP)) = some (decide ([] ∈ lay)) := by
  obtain ⟨c, h, k⟩ := in_lst (x := .tup []) (l := lay.map dP) (n := 2) (m := 2) (sd_dP []) (fun d hd => by
    obtain ⟨p, _, rfl⟩ := List.mem_map.mp hd
    exact sd_dP p) (by omega) (by omega)
  refine some_dec h ?_
  rw [k, List.mem_map]
  constructor
  · rintro ⟨p, hp, e⟩
    have : p = [] := dP_inj.mp (e.trans (show D.tup [] = dP [] from rfl))
    rwa [this] at hp
  · exact fun h => ⟨[], h, rfl⟩
theorem row_alike (k : Nat) (a b : List Nat) (ha : okName a) (hb : okName b) (f g : W) (hf : lookS a s = some (dW f)) (hg : lookS b s = some (dW g)) (gf : GdW f) (gg : GdW g) (t : Tg f g) (hf4 : f.n ≤ 4) (hg4 : g.n ≤ 4) (d : Nat) (hd : d ≤ 6) : callN (k + 12) .desk_say [.desk, .str ([97, 108, 105, 107, 101, 32] ++ a ++ [32] ++ b ++ [32] ++ dig d)] s = some (.str (if [] ∈ layL f g d then [121, 101, 115] else [110, 111]), s) := by
  have a8 := ha.2.1
  have b8 := hb.2.1
  have hno : ∀ {x : List Nat}, okName x → 32 ∉ x := fun h z => absurd (h.2.2.1 _ z) (by decide)
  have hdg : 32 ∉ dig d := by simp [dig]; omega
  have hrow : spl ([97, 108, 105, 107, 101, 32] ++ a ++ [32] ++ b ++ [32] ++ dig d) [32] = [97, 108, 105, 107, 101] :: [a, b, dig d] := by
    have e : [97, 108, 105, 107, 101, 32] ++ a ++ [32] ++ b ++ [32] ++ dig d = [97, 108, 105, 107, 101] ++ [32] ++ (a ++ [32] ++ (b ++ [32] ++ dig d)) := by simp
    rw [e, spl_row _ _ (by decide), spl_row _ _ (hno ha), spl_row _ _ (hno hb), spl_one _ hdg]
  refine c_say (k + 9) _ [97, 108, 105, 107, 101] [87, 87, 70] [a, b, dig d] (lk s) _ hrow (by simp [dig]; omega) (by decide) rfl (by simp) (by simp) (by simp) (fun p hp => ?_) (fun p hp h7 => ?_) (fun x4 x5 => ?_)
  · have : p = (87, a) ∨ p = (87, b) ∨ p = (70, dig d) := by simpa using hp
    rcases this with rfl | rfl | rfl
    · exact ha
    · exact hb
    · exact ⟨48 + d, by simp [dig], by omega, by omega⟩
  · have : p = (87, a) ∨ p = (87, b) ∨ p = (70, dig d) := by simpa using hp
    rcases this with rfl | rfl | rfl
    · rw [lk_of hf]; exact hf
    · rw [lk_of hg]; exact hg
    · exact absurd h7 (by simp)
  · have tw : Two f g := ⟨t, ⟨fun m hm c hc => isLet_lt ((gf.nm m hm).2.2.1 c hc), fun m hm c hc => isLet_lt ((gf.na m hm).2.2.1 c hc)⟩, gf.n1, gg.n1, by have := gf.lm; omega, by have := gf.la; omega⟩
    have h1 := c_check_two (s := s) (k + 7) tw hf4 hg4
    have h2 := c_layers (s := s) (k + 5) tw hf4 hg4 d hd
    have hat : L2.atI ((List.range (d + 1)).map fun i => D.lst ((layL f g i).map dP)) (d : Int) = some (.lst ((layL f g d).map dP)) := by
      rw [atI_nat, List.getElem?_map, List.getElem?_range (by omega)]
      rfl
    have hin := in_l0 (layL f g d)
    have hint : b1D .int1 (.str (dig d)) = some (.int d) := by
      have : 48 + d ≤ 57 := by omega
      simp [dig, this]
    have h3 : callN (k + 11) .desk_about_two [.desk, .lst [.str [97, 108, 105, 107, 101], .str a, .str b, .str (dig d)], dW f, dW g] s = some (.str (if [] ∈ layL f g d then [121, 101, 115] else [110, 111]), s) := by
      refine call_rt rfl ?_
      show exSs (callN (k + 10)) b_desk_about_two [.p .desk, .p (.lst [.str [97, 108, 105, 107, 101], .str a, .str b, .str (dig d)]), .p (dW f), .p (dW g), .un, .un, .un, .un, .un] s = _
      generalize dig (d : Int) = dg at *
      generalize ((List.range (d + 1)).map fun i => D.lst ((layL f g i).map dP)) = LL at *
      generalize (layL f g d).map dP = LD at *
      by_cases hm : [] ∈ layL f g d
      · simp [hm] at hin
        simp [b_desk_about_two, h1, h2, hat, hin, hint, hm]
      · simp [hm] at hin
        simp [b_desk_about_two, h1, h2, hat, hin, hint, hm]
    generalize [97, 108, 105, 107, 101, 32] ++ a ++ [32] ++ b ++ [32] ++ dig d = row at *
    generalize dig (d : Int) = dg at *
    simp [b_desk_say, tl4, lk_of hf, lk_of hg, h3]
end
end Pk
end
section
-- PuAbout
set_option linter.all false
set_option maxRecDepth 10000
/-! What is asked of one saying. -/
namespace Pk
open PySem
section
variable {s : Sh}
def rowA : ME := .bin .add (.bin .add (.bin .add (.bin .add (.bin .add (.str [97, 108, 105, 107, 101, 32]) (.var 1)) (.str [32])) (.var 2)) (.str [32])) (.b1 .str1 (.var 3))
theorem law_alike_eq : b_law_alike = .cons (.ret (.cmp .eq (.meth .desk_say (.var 0) (.cons rowA .nil)) (.str [121, 101, 115]))) .nil := rfl
theorem c_law_alike (k : Nat) (a b : List Nat) (ha : okName a) (hb : okName b) (f g : W) (hf : lookS a s = some (dW f)) (hg : lookS b s = some (dW g)) (gf : GdW f) (gg : GdW g) (t : Tg f g) (hf4 : f.n ≤ 4) (hg4 : g.n ≤ 4) (d : Nat) (hd : d ≤ 6) : callN (k + 13) .law_alike [.desk, .str a, .str b, .int d] s = some (.bl (decide ([] ∈ layL f g d)), s) := by
  have h := row_alike (s := s) k a b ha hb f g hf hg gf gg t hf4 hg4 d hd
  have a8 := ha.2.1
  have b8 := hb.2.1
  refine call_rt rfl ?_
  have hd9 : 0 ≤ (d : Int) ∧ (d : Int) ≤ 9 := by omega
  have e1 : evE (callN (k + 12)) rowA [.p .desk, .p (.str a), .p (.str b), .p (.int d)] s = some (.str ([97, 108, 105, 107, 101, 32] ++ a ++ [32] ++ b ++ [32] ++ dig d), s) := by
    have m1 : 6 + a.length ≤ 16777216 := by omega
    have m2 : a.length + 6 ≤ 16777216 := by omega
    have m3 : a.length + 1 ≤ 16777216 := by omega
    simp [hd9, dig, rowA]
    simp (disch := omega) [if_pos]
  show exSs (callN (k + 12)) b_law_alike [.p .desk, .p (.str a), .p (.str b), .p (.int d)] s = _
  rw [law_alike_eq]
  generalize [97, 108, 105, 107, 101, 32] ++ a ++ [32] ++ b ++ [32] ++ dig d = row at *
  by_cases hm : [] ∈ layL f g d
  · rw [if_pos hm] at h
    simp [e1, h, hm]
  · rw [if_neg hm] at h
    simp [e1, h, hm]
/-- the four worlds and what the desk keeps -/
structure Four (A B : List (List Nat)) (s : Sh) (fa fb ga gb : W) : Prop where
  t : Tn A B
  wfa : ∃ n, Gp n A B fa ∧ 1 ≤ n ∧ n ≤ 3
  wfb : ∃ n, Gp n A B fb ∧ 1 ≤ n ∧ n ≤ 3
  wga : ∃ n, Gp n A B ga ∧ 1 ≤ n ∧ n ≤ 3
  wgb : ∃ n, Gp n A B gb ∧ 1 ≤ n ∧ n ≤ 3
  lfa : lookS [102, 97] s = some (dW fa)
  lfb : lookS [102, 98] s = some (dW fb)
  lga : lookS [103, 97] s = some (dW ga)
  lgb : lookS [103, 98] s = some (dW gb)
  l1 : lookS [111, 110, 101] s = some (dW (sumW fa ga))
  l2 : lookS [116, 119, 111] s = some (dW (sumW fb gb))
theorem gp_tg {n m : Int} {A B : List (List Nat)} {f g : W} (h : Gp n A B f) (k : Gp m A B g) : Tg f g := ⟨h.a.trans k.a.symm, h.b.trans k.b.symm⟩
theorem sum_fst {f g : W} (t : Tg f g) : (sumW f g).ms.map Prod.fst = f.ms.map Prod.fst ∧ (sumW f g).as.map Prod.fst = f.as.map Prod.fst := by
  constructor
  · have := t.lm
    apply List.ext_getElem
    · simp [sumW]; omega
    · intro i h1 h2
      simp [sumW, shM]
  · have := t.la
    apply List.ext_getElem
    · simp [sumW]; omega
    · intro i h1 h2
      simp [sumW, shA]
theorem look_ex {α : Type} (n : List Nat) : ∀ l : List (List Nat × α), n ∈ l.map Prod.fst → ∃ x, lookS n l = some x
  | [], h => by cases h
  | (k, x) :: r, h => by
    by_cases e : k = n
    · exact ⟨x, by simp [lookS, e]⟩
    · have : n ∈ r.map Prod.fst := by
        rcases List.mem_cons.mp h with h | h
        · exact absurd h.symm e
        · exact h
      obtain ⟨y, hy⟩ := look_ex n r this
      exact ⟨y, by simp [lookS, e, hy]⟩
theorem v_ok {ls : List Nat} {A B : List (List Nat)} {w : W} (t : Tn A B) (ha : w.ms.map Prod.fst = A) (hb : w.as.map Prod.fst = B) : VT ⟨ls, A, B⟩ w ∧ VW ⟨ls, A, B⟩ w :=
  ⟨⟨fun n hn => ⟨by rw [ha]; exact hn, fun c hc => isLet_lt ((t.a.ok n hn).2.2.1 c hc)⟩, fun n hn => ⟨by rw [hb]; exact hn, fun c hc => isLet_lt ((t.b.ok n hn).2.2.1 c hc)⟩⟩,
   ⟨fun n hn => look_ex n _ (by rw [ha]; exact hn), fun n hn => look_ex n _ (by rw [hb]; exact hn)⟩⟩
theorem ok2 (n : List Nat) (h : (decide (2 ≤ n.length) && decide (n.length ≤ 8) && n.all isLet && !decide (n ∈ WRDS)) = true) : okName n := okName_iff.mpr h
theorem c_law_about (k : Nat) {A B : List (List Nat)} {fa fb ga gb : W} (F : Four A B s fa fb ga gb) (ls : List Nat) (h4 : ls.length = 4) (hls : ∀ l ∈ ls, isLet l = true) (φ : Sy) (hw : wf ⟨ls, A, B⟩ φ) (hfr : fr φ = []) (hsz : sz φ ≤ 13) : callN (k + 60) .law_about [.desk, dS φ, .lst [dW (sumW fa ga), dW (sumW fb gb)]] s = some (.bl true, s) := by
  obtain ⟨n1, gfa, a1, a3⟩ := F.wfa
  obtain ⟨n2, gfb, b1, b3⟩ := F.wfb
  obtain ⟨n3, gga, c1, c3⟩ := F.wga
  obtain ⟨n4, ggb, d1, d3⟩ := F.wgb
  have Gfa := gfa.gd F.t a1 (by omega)
  have Gfb := gfb.gd F.t b1 (by omega)
  have Gga := gga.gd F.t c1 (by omega)
  have Ggb := ggb.gd F.t d1 (by omega)
  have hn1 := gfa.hn
  have hn2 := gfb.hn
  have hn3 := gga.hn
  have hn4 := ggb.hn
  have ta := gp_tg gfa gga
  have tb := gp_tg gfb ggb
  have G1 := Gfa.sum Gga ta (by omega)
  have G2 := Gfb.sum Ggb tb (by omega)
  have sf1 := sum_fst ta
  have sf2 := sum_fst tb
  have hs1n : (sumW fa ga).n = fa.n + ga.n := rfl
  have hs2n : (sumW fb gb).n = fb.n + gb.n := rfl
  have t12 : Tg (sumW fa ga) (sumW fb gb) := ⟨by rw [sf1.1, sf2.1, gfa.a, gfb.a], by rw [sf1.2, sf2.2, gfa.b, gfb.b]⟩
  have hV : Vn ⟨ls, A, B⟩ := ⟨F.t.a.ok, F.t.b.ok, hls⟩
  have hVo : Vok ⟨ls, A, B⟩ := ⟨fun n hn c hc => isLet_lt ((F.t.a.ok n hn).2.2.1 c hc), fun n hn c hc => isLet_lt ((F.t.b.ok n hn).2.2.1 c hc), fun c hc => isLet_lt (hls c hc)⟩
  obtain ⟨vt1, vw1⟩ := v_ok (ls := ls) (w := sumW fa ga) F.t (by rw [sf1.1, gfa.a]) (by rw [sf1.2, gfa.b])
  obtain ⟨vt2, vw2⟩ := v_ok (ls := ls) (w := sumW fb gb) F.t (by rw [sf2.1, gfb.a]) (by rw [sf2.2, gfb.b])
  have hgs := hg_sz φ
  have hlen := sh_len hV φ hw
  have hdep := c_depth_of (s := s) (hg φ) φ (Nat.le_refl _) hw (k + 59) (by omega)
  refine call_rt rfl ?_
  by_cases h5 : (dp φ : Int) > 4
  · show exSs (callN (k + 59)) b_law_about [.p .desk, .p (dS φ), .p (.lst [dW (sumW fa ga), dW (sumW fb gb)]), .un, .un, .un, .un] s = _
    generalize dW (sumW fa ga) = W1 at *
    generalize dW (sumW fb gb) = W2 at *
    have h5' : (4 : Int) < (dp φ : Nat) := h5
    simp [b_law_about, hdep, h5']
  · have hd6 : dp φ ≤ 6 := by omega
    have h5' : ¬ (4 : Int) < (dp φ : Nat) := h5
    have al1 := c_law_alike (s := s) (k + 46) [102, 97] [102, 98] (ok2 _ (by decide)) (ok2 _ (by decide)) fa fb F.lfa F.lfb Gfa Gfb (gp_tg gfa gfb) (by omega) (by omega) (dp φ) hd6
    have al2 := c_law_alike (s := s) (k + 46) [103, 97] [103, 98] (ok2 _ (by decide)) (ok2 _ (by decide)) ga gb F.lga F.lgb Gga Ggb (gp_tg gga ggb) (by omega) (by omega) (dp φ) hd6
    have hsh := c_show (s := s) hVo (hg φ) φ (Nat.le_refl _) hw (by omega) (by omega) (k + 59) (by omega)
    have nok : ∀ {w : W}, GdW w → Nok w := fun h => ⟨fun m hm c hc => isLet_lt ((h.nm m hm).2.2.1 c hc), fun m hm c hc => isLet_lt ((h.na m hm).2.2.1 c hc)⟩
    have tr1 := c_law_true (s := s) vw1 vt1 (nok G1) (by omega) (smallOf (by omega) (by omega)) (by have := G1.lm; omega) (by have := G1.la; omega) (hg φ) φ (Nat.le_refl _) hw (fun _ => 0) [] (fun c hc => by rw [hfr] at hc; cases hc) (by simp; omega) (k + 59) (by omega)
    have tr2 := c_law_true (s := s) vw2 vt2 (nok G2) (by omega) (smallOf (by omega) (by omega)) (by have := G2.lm; omega) (by have := G2.la; omega) (hg φ) φ (Nat.le_refl _) hw (fun _ => 0) [] (fun c hc => by rw [hfr] at hc; cases hc) (by simp; omega) (k + 59) (by omega)
    have sa1 := row_say (s := s) (k + 19) [111, 110, 101] (ok2 _ (by decide)) _ G1 F.l1 ⟨ls, A, B⟩ hV vt1 vw1 (by simp; omega) φ hw hfr hsz
    have sa2 := row_say (s := s) (k + 19) [116, 119, 111] (ok2 _ (by decide)) _ G2 F.l2 ⟨ls, A, B⟩ hV vt2 vw2 (by simp; omega) φ hw hfr hsz
    -- the mathematics
    have e1 := nil_layL (gp_tg gfa gfb) (by omega : fa.n ≤ 4) (dp φ)
    have e2 := nil_layL (gp_tg gga ggb) (by omega : ga.n ≤ 4) (dp φ)
    have hEQ : [] ∈ layL fa fb (dp φ) → [] ∈ layL ga gb (dp φ) → EQ (sumW fa ga) (sumW fb gb) (dp φ) [] := fun x y =>
      eq_sum ta tb Gfa.inn Gfb.inn Gga.inn Ggb.inn (dp φ) (ps := []) (qs := []) (fun p hp => by cases hp) (fun p hp => by cases hp) (e1.mp x) (e2.mp y)
    have hsem : [] ∈ layL fa fb (dp φ) → [] ∈ layL ga gb (dp φ) → sem (sumW fa ga) φ (fun _ => 0) = sem (sumW fb gb) φ (fun _ => 0) := fun x y =>
      sem_eq t12 φ (dp φ) [] _ _ (hEQ x y) (Nat.le_refl _) (fun c hc => by rw [hfr] at hc; cases hc)
    have al3 : (sumW fa ga).n ≤ 4 → (sumW fb gb).n ≤ 4 → [] ∈ layL fa fb (dp φ) → [] ∈ layL ga gb (dp φ) → callN (k + 59) .law_alike [.desk, .str [111, 110, 101], .str [116, 119, 111], .int (dp φ)] s = some (.bl true, s) := fun x y z u => by
      have h1 := c_law_alike (s := s) (k + 46) [111, 110, 101] [116, 119, 111] (ok2 _ (by decide)) (ok2 _ (by decide)) (sumW fa ga) (sumW fb gb) F.l1 F.l2 G1 G2 t12 x y (dp φ) hd6
      rw [decide_eq_true ((nil_layL t12 x (dp φ)).mpr (hEQ z u))] at h1
      exact h1
    have i1 := ix_W0 (sumW fa ga)
    have i2 := ix_W0 (sumW fb gb)
    generalize (sumW fa ga).n = m1 at *
    generalize (sumW fb gb).n = m2 at *
    generalize sem (sumW fa ga) φ (fun _ => 0) = b1 at *
    generalize sem (sumW fb gb) φ (fun _ => 0) = b2 at *
    generalize dW (sumW fa ga) = W1 at *
    generalize dW (sumW fb gb) = W2 at *
    obtain ⟨d, hd⟩ : ∃ d, ((dp φ : Nat) : Int) = d := ⟨_, rfl⟩
    rw [hd] at hdep h5' al1 al2 al3
    have hbl : (sh φ).length ≤ 1000 := by omega
    generalize sh φ = tx at *
    show exSs (callN (k + 59)) b_law_about [.p .desk, .p (dS φ), .p (.lst [W1, W2]), .un, .un, .un, .un] s = _
    unfold b_law_about
    rw [exSs_nx (ρ' := [.p .desk, .p (dS φ), .p (.lst [W1, W2]), .un, .un, .un, .un]) (s' := s) (by simp [hdep, h5'])]
    obtain ⟨p1, hp1⟩ : ∃ p, decide ([] ∈ layL fa fb (dp φ)) = p := ⟨_, rfl⟩
    obtain ⟨p2, hp2⟩ : ∃ p, decide ([] ∈ layL ga gb (dp φ)) = p := ⟨_, rfl⟩
    rw [hp1] at al1
    rw [hp2] at al2
    have hq1 : p1 = true → [] ∈ layL fa fb (dp φ) := fun z => by rw [z] at hp1; simpa using hp1
    have hq2 : p2 = true → [] ∈ layL ga gb (dp φ) := fun z => by rw [z] at hp2; simpa using hp2
    rw [exSs_nx (ρ' := [.p .desk, .p (dS φ), .p (.lst [W1, W2]), .p (.bl (p1 && p2)), .un, .un, .un]) (s' := s) (by
      cases p1 <;> cases p2 <;> simp [hdep, al1, al2])]
    rw [exSs_nx (ρ' := [.p .desk, .p (dS φ), .p (.lst [W1, W2]), .p (.bl (p1 && p2)), .p (.str tx), .un, .un]) (s' := s) (by simp [hsh])]
    rw [exSs_nx (ρ' := [.p .desk, .p (dS φ), .p (.lst [W1, W2]), .p (.bl (p1 && p2)), .p (.str tx), .p (.bl b1), .un]) (s' := s) (by simp [tr1])]
    rw [exSs_nx (ρ' := [.p .desk, .p (dS φ), .p (.lst [W1, W2]), .p (.bl (p1 && p2)), .p (.str tx), .p (.bl b1), .p (.bl b2)]) (s' := s) (by simp [tr2])]
    have hbb : p1 = true → p2 = true → b1 = b2 := fun x y => hsem (hq1 x) (hq2 y)
    have m3 : tx.length + 8 ≤ 16777216 := by omega
    have m4 : tx.length ≤ 16777208 := by omega
    have m5 : 8 + tx.length ≤ 16777216 := by omega
    rw [exSs_nx (ρ' := [.p .desk, .p (dS φ), .p (.lst [W1, W2]), .p (.bl (p1 && p2)), .p (.str tx), .p (.bl b1), .p (.bl b2)]) (s' := s) (by
      simp at sa1
      cases p1 <;> cases p2 <;> cases b1 <;> cases b2 <;> first | (exact absurd (hbb rfl rfl) (by decide)) | (simp at sa1; simp [m3, m4, m5, sa1]))]
    rw [exSs_nx (ρ' := [.p .desk, .p (dS φ), .p (.lst [W1, W2]), .p (.bl (p1 && p2)), .p (.str tx), .p (.bl b1), .p (.bl b2)]) (s' := s) (by
      cases hp : (p1 && p2) with
      | false => simp
      | true =>
        rw [Bool.and_eq_true] at hp
        have al4 := fun x y => al3 x y (hq1 hp.1) (hq2 hp.2)
        by_cases hm : m2 > m1
        · by_cases hm4 : m2 ≤ 4
          · have := al4 (by omega) hm4
            simp [i1, i2, hm, hm4, hdep, this]
          · simp [i1, i2, hm, hm4]
        · by_cases hm4 : m1 ≤ 4
          · have := al4 hm4 (by omega)
            simp [i1, i2, hm, hm4, hdep, this]
          · simp [i1, i2, hm, hm4])]
    simp at sa2
    cases b2 <;> simp at sa2 <;> simp [m3, m4, m5, sa2]
end
end Pk
end
section
-- PuLaw
set_option linter.all false
set_option maxRecDepth 10000
/-! The law. -/
namespace Pk
open PySem
theorem forL_cons {f : D → En → Sh → Option Out} {x : D} {r : List D} {ρ ρ1 : En} {s s1 : Sh} (h : f x ρ s = some (.nx ρ1 s1)) : forL f (x :: r) ρ s = forL f r ρ1 s1 := by
  rw [forL, h]
theorem law0 (k : Nat) (ns : List Int) : ∃ A B fa fb ga gb, Tn A B ∧ (∃ n, Gp n A B fa ∧ 1 ≤ n ∧ n ≤ 3) ∧ (∃ n, Gp n A B fb ∧ 1 ≤ n ∧ n ≤ 3) ∧ (∃ n, Gp n A B ga ∧ 1 ≤ n ∧ n ≤ 3) ∧ (∃ n, Gp n A B gb ∧ 1 ≤ n ∧ n ≤ 3) ∧
    exSs (callN (k + 5)) b_law0 (startE .law [.scr ns]) [] = some (.nx [.p (.scr ns), .p (.tup [dW fa, dW fb]), .p (.lst [dW ga, dW gb]), .un, .un, .un, .un, .un, .un, .un, .un, .un] []) := by
  obtain ⟨fa, fb, A, B, n1, n2, h1, t1, g1, g2, r1, r2⟩ := c_law_two (s := []) (k + 1) ns 1 (by omega)
  obtain ⟨c, d, A', B', n3, n4, h2, t2, g3, g4, r3, r4⟩ := c_law_two (s := []) (k + 1) ns 20 (by omega)
  obtain ⟨ga, h3, g5⟩ := c_law_of_tongue (s := []) (k + 4) n3 n1 A B A' B' t1 t2 c fa g3 g1
  obtain ⟨gb, h4, g6⟩ := c_law_of_tongue (s := []) (k + 4) n4 n1 A B A' B' t1 t2 d fa g4 g1
  refine ⟨A, B, fa, fb, ga, gb, t1, ⟨n1, g1, r1⟩, ⟨n2, g2, r2⟩, ⟨n3, g5, r3⟩, ⟨n4, g6, r4⟩, ?_⟩
  show exSs (callN (k + 5)) b_law0 [.p (.scr ns), .un, .un, .un, .un, .un, .un, .un, .un, .un, .un, .un] [] = _
  unfold b_law0
  rw [exSs_nx (ρ' := [.p (.scr ns), .p (.tup [dW fa, dW fb]), .un, .un, .un, .un, .un, .un, .un, .un, .un, .un]) (s' := []) (by simp [h1])]
  have hcm : evE (callN (k + 5)) (.comp false (.call .law_of_tongue (.cons (.var 8) (.cons (.ix (.var 1) (.int 0)) .nil))) (.one 8) (.val (.call .law_two (.cons (.var 0) (.cons (.int 20) (.cons (.int 3) .nil))))) (.bl true)) [.p (.scr ns), .p (.tup [dW fa, dW fb]), .un, .un, .un, .un, .un, .un, .un, .un, .un, .un] [] = some (.lst ([(c, ga), (d, gb)].map fun p => dW p.2), []) := by
    refine ev_comp_m (e := fun p : W × W => dW p.1) (l := [(c, ga), (d, gb)]) (fun p => dW p.2) (by simp [h2]) rfl (by simp) (fun p hp => ⟨_, rfl, ?_⟩)
    simp only [List.mem_cons, List.not_mem_nil, or_false] at hp
    rcases hp with rfl | rfl
    · simp [h3]
    · simp [h4]
  simp [hcm]
theorem ev_set10 (cl : Cl) (ns : List Int) (kk : Int) (CS LS : List D) (T R P L1 R1 S1 x7 x8 : D) (x10 : Sl) (s : Sh) (h : slD (.scr ns) (some kk) (some (kk + 7)) = some (.lst CS)) (h1 : cl .law_grown [.lst CS, T, .lst LS] s = some (R, s)) (h2 : cl .law_plain [R] s = some (P, s)) :
    exS cl (.set 10 (.call .law_plain (.cons (.call .law_grown (.cons (.sl (.var 0) (.ok (.var 6)) (.ok (.bin .add (.var 6) (.int 7)))) (.cons (.var 5) (.cons (.var 9) .nil)))) .nil))) [.p (.scr ns), .p L1, .p R1, .p .desk, .p S1, .p T, .p (.int kk), .p x7, .p x8, .p (.lst LS), x10, .un] s = some (.nx [.p (.scr ns), .p L1, .p R1, .p .desk, .p S1, .p T, .p (.int kk), .p x7, .p x8, .p (.lst LS), .p P, .un] s) := by
  simp at h
  simp [h, h1, h2]
theorem law1 (k : Nat) (ns : List Int) (hns : ns.length ≤ 63) (A B : List (List Nat)) (fa fb ga gb : W) (t : Tn A B) (wfa : ∃ n, Gp n A B fa ∧ 1 ≤ n ∧ n ≤ 3) (wfb : ∃ n, Gp n A B fb ∧ 1 ≤ n ∧ n ≤ 3) (wga : ∃ n, Gp n A B ga ∧ 1 ≤ n ∧ n ≤ 3) (wgb : ∃ n, Gp n A B gb ∧ 1 ≤ n ∧ n ≤ 3) :
    ∃ s, exSs (callN (k + 60)) b_law1 [.p (.scr ns), .p (.tup [dW fa, dW fb]), .p (.lst [dW ga, dW gb]), .p .desk, .un, .un, .un, .un, .un, .un, .un, .un] [] = some (.rt (.bl true) s) := by
  obtain ⟨n1, gfa, a1, a3⟩ := wfa
  obtain ⟨n2, gfb, b1, b3⟩ := wfb
  obtain ⟨n3, gga, c1, c3⟩ := wga
  obtain ⟨n4, ggb, d1, d3⟩ := wgb
  have Gfa := gfa.gd t a1 (by omega)
  have Gfb := gfb.gd t b1 (by omega)
  have Gga := gga.gd t c1 (by omega)
  have Ggb := ggb.gd t d1 (by omega)
  have hn1 := gfa.hn
  have hn2 := gfb.hn
  have hn3 := gga.hn
  have hn4 := ggb.hn
  have ta := gp_tg gfa gga
  have tb := gp_tg gfb ggb
  have G1 := Gfa.sum Gga ta (by omega)
  have G2 := Gfb.sum Ggb tb (by omega)
  have la := t.la
  have lb := t.lb
  have lma := Gfa.lm
  have laa := Gfa.la
  obtain ⟨L, hL⟩ : ∃ L, L = D.tup [dW fa, dW fb] := ⟨_, rfl⟩
  obtain ⟨R, hR⟩ : ∃ R, R = D.lst [dW ga, dW gb] := ⟨_, rfl⟩
  have l0 : ixD L (.int 0) = some (dW fa) := by rw [hL]; simp
  have l1 : ixD L (.int 1) = some (dW fb) := by rw [hL]; simp
  have r0 : ixD R (.int 0) = some (dW ga) := by rw [hR]; simp
  have r1 : ixD R (.int 1) = some (dW gb) := by rw [hR]; simp
  rw [← hL, ← hR]
  obtain ⟨s1, hs1⟩ : ∃ s1, putS [102, 97] (dW fa) [] = s1 := ⟨_, rfl⟩
  obtain ⟨s2, hs2⟩ : ∃ s2, putS [102, 98] (dW fb) s1 = s2 := ⟨_, rfl⟩
  obtain ⟨s3, hs3⟩ : ∃ s3, putS [103, 97] (dW ga) s2 = s3 := ⟨_, rfl⟩
  obtain ⟨s4, hs4⟩ : ∃ s4, putS [103, 98] (dW gb) s3 = s4 := ⟨_, rfl⟩
  obtain ⟨s5, hs5⟩ : ∃ s5, putS [111, 110, 101] (dW (sumW fa ga)) s4 = s5 := ⟨_, rfl⟩
  obtain ⟨s6, hs6⟩ : ∃ s6, putS [116, 119, 111] (dW (sumW fb gb)) s5 = s6 := ⟨_, rfl⟩
  have z1 : s1.length ≤ 1 := by rw [← hs1]; exact putS_len _ _ _
  have z2 : s2.length ≤ 2 := by rw [← hs2]; exact Nat.le_trans (putS_len _ _ _) (by omega)
  have z3 : s3.length ≤ 3 := by rw [← hs3]; exact Nat.le_trans (putS_len _ _ _) (by omega)
  have z4 : s4.length ≤ 4 := by rw [← hs4]; exact Nat.le_trans (putS_len _ _ _) (by omega)
  have z5 : s5.length ≤ 5 := by rw [← hs5]; exact Nat.le_trans (putS_len _ _ _) (by omega)
  have k4 : lookS [102, 97] s4 = some (dW fa) ∧ lookS [102, 98] s4 = some (dW fb) ∧ lookS [103, 97] s4 = some (dW ga) ∧ lookS [103, 98] s4 = some (dW gb) := by
    rw [← hs4, ← hs3, ← hs2, ← hs1]
    simp [lookS_putS]
  have k5 : lookS [102, 98] s5 = some (dW fb) ∧ lookS [103, 98] s5 = some (dW gb) := by
    rw [← hs5]
    simp [lookS_putS, k4]
  have F : Four A B s6 fa fb ga gb := by
    refine ⟨t, ⟨n1, gfa, a1, a3⟩, ⟨n2, gfb, b1, b3⟩, ⟨n3, gga, c1, c3⟩, ⟨n4, ggb, d1, d3⟩, ?_, ?_, ?_, ?_, ?_, ?_⟩ <;> rw [← hs6] <;> simp only [lookS_putS] <;> rw [← hs5] <;> simp [lookS_putS, k4]
  have step : ∀ (nm : List Nat) (w : W) (x7 x8 : Sl) (s : Sh), okName nm → GdW w → s.length < 1000 → exSs (callN (k + 60)) (.cons (.iff (.cmp .ne (.meth .desk_say (.var 3) (.cons (.bin .add (.bin .add (.bin .add (.str [119, 111, 114, 108, 100, 32]) (.var 7)) (.str [32])) (.call .law_text (.cons (.var 8) .nil))) .nil)) (.str [111, 107])) (.cons (.ret (.bl false)) .nil) .nil) .nil) [.p (.scr ns), .p L, .p R, .p .desk, .un, .un, .un, .p (.str nm), .p (dW w), .un, .un, .un] s = some (.nx [.p (.scr ns), .p L, .p R, .p .desk, .un, .un, .un, .p (.str nm), .p (dW w), .un, .un, .un] (putS nm (dW w) s)) := fun nm w x7 x8 s hnm g hs => by
    have h1 := row_world (s := s) (k + 48) nm hnm w g hs
    have h2 := c_law_text (s := s) g (k + 59)
    have hl := wt_len g
    have n8 := hnm.2.1
    have m1 : 6 + nm.length ≤ 16777216 := by omega
    have m2 : nm.length ≤ 16777209 := by omega
    have m3 : nm.length ≤ 16777210 := by omega
    have m4 : 6 + nm.length + 1 ≤ 16777216 := by omega
    have m5 : 6 + nm.length + 1 + (wt w).length ≤ 16777216 := by omega
    generalize wt w = tx at *
    have h1' : callN (k + 60) .desk_say [.desk, .str (119 :: 111 :: 114 :: 108 :: 100 :: 32 :: (nm ++ 32 :: tx))] s = some (.str [111, 107], putS nm (dW w) s) := by simpa using h1
    simp
    simp (disch := omega) [if_pos, h2, h1']
  have hloop : exS (callN (k + 60)) (.for_ (.many [7, 8]) (.val (.lst (.cons (.tup (.cons (.str [102, 97]) (.cons (.ix (.var 1) (.int 0)) .nil))) (.cons (.tup (.cons (.str [102, 98]) (.cons (.ix (.var 1) (.int 1)) .nil))) (.cons (.tup (.cons (.str [103, 97]) (.cons (.ix (.var 2) (.int 0)) .nil))) (.cons (.tup (.cons (.str [103, 98]) (.cons (.ix (.var 2) (.int 1)) .nil))) .nil)))))) (.cons (.iff (.cmp .ne (.meth .desk_say (.var 3) (.cons (.bin .add (.bin .add (.bin .add (.str [119, 111, 114, 108, 100, 32]) (.var 7)) (.str [32])) (.call .law_text (.cons (.var 8) .nil))) .nil)) (.str [111, 107])) (.cons (.ret (.bl false)) .nil) .nil) .nil)) [.p (.scr ns), .p L, .p R, .p .desk, .un, .un, .un, .un, .un, .un, .un, .un] [] = some (.nx [.p (.scr ns), .p L, .p R, .p .desk, .un, .un, .un, .p (.str [103, 98]), .p (dW gb), .un, .un, .un] s4) := by
    have hev : evI (callN (k + 60)) (.val (.lst (.cons (.tup (.cons (.str [102, 97]) (.cons (.ix (.var 1) (.int 0)) .nil))) (.cons (.tup (.cons (.str [102, 98]) (.cons (.ix (.var 1) (.int 1)) .nil))) (.cons (.tup (.cons (.str [103, 97]) (.cons (.ix (.var 2) (.int 0)) .nil))) (.cons (.tup (.cons (.str [103, 98]) (.cons (.ix (.var 2) (.int 1)) .nil))) .nil)))))) [.p (.scr ns), .p L, .p R, .p .desk, .un, .un, .un, .un, .un, .un, .un, .un] [] = some ([.tup [.str [102, 97], dW fa], .tup [.str [102, 98], dW fb], .tup [.str [103, 97], dW ga], .tup [.str [103, 98], dW gb]], []) := by
      simp [l0, l1, r0, r1]
    rw [exS.eq_def]
    simp only [hev]
    rw [forL_cons (ρ1 := [.p (.scr ns), .p L, .p R, .p .desk, .un, .un, .un, .p (.str [102, 97]), .p (dW fa), .un, .un, .un]) (s1 := s1) (by rw [← hs1]; exact step _ _ .un .un _ (ok2 _ (by decide)) Gfa (by simp))]
    rw [forL_cons (ρ1 := [.p (.scr ns), .p L, .p R, .p .desk, .un, .un, .un, .p (.str [102, 98]), .p (dW fb), .un, .un, .un]) (s1 := s2) (by rw [← hs2]; exact step _ _ .un .un _ (ok2 _ (by decide)) Gfb (by omega))]
    rw [forL_cons (ρ1 := [.p (.scr ns), .p L, .p R, .p .desk, .un, .un, .un, .p (.str [103, 97]), .p (dW ga), .un, .un, .un]) (s1 := s3) (by rw [← hs3]; exact step _ _ .un .un _ (ok2 _ (by decide)) Gga (by omega))]
    rw [forL_cons (ρ1 := [.p (.scr ns), .p L, .p R, .p .desk, .un, .un, .un, .p (.str [103, 98]), .p (dW gb), .un, .un, .un]) (s1 := s4) (by rw [← hs4]; exact step _ _ .un .un _ (ok2 _ (by decide)) Ggb (by omega))]
    rfl
  have be1 := row_beside (s := s4) (k + 48) [111, 110, 101] [102, 97] [103, 97] (ok2 _ (by decide)) (ok2 _ (by decide)) (ok2 _ (by decide)) fa ga k4.1 k4.2.2.1 Gfa Gga ta (by omega) (by omega)
  have be2 := row_beside (s := s5) (k + 48) [116, 119, 111] [102, 98] [103, 98] (ok2 _ (by decide)) (ok2 _ (by decide)) (ok2 _ (by decide)) fb gb k5.1 k5.2 Gfb Ggb tb (by omega) (by omega)
  rw [hs5] at be1
  rw [hs6] at be2
  have sh1 := row_show (s := s6) (k + 48) [111, 110, 101] (ok2 _ (by decide)) _ G1 F.l1
  have sh2 := row_show (s := s6) (k + 48) [116, 119, 111] (ok2 _ (by decide)) _ G2 F.l2
  have tx1 := c_law_text (s := s6) G1 (k + 59)
  have tx2 := c_law_text (s := s6) G2 (k + 59)
  have su1 := c_law_sum (s := s6) (k + 59) Gfa Gga ta
  have su2 := c_law_sum (s := s6) (k + 59) Gfb Ggb tb
  simp at be1 be2 sh1 sh2
  refine ⟨s6, ?_⟩
  unfold b_law1
  rw [exSs_nx hloop]
  clear hloop step
  rw [exSs_nx (ρ' := [.p (.scr ns), .p L, .p R, .p .desk, .un, .un, .un, .p (.str [103, 98]), .p (dW gb), .un, .un, .un]) (s' := s6) (by simp [be1, be2])]
  rw [exSs_nx (ρ' := [.p (.scr ns), .p L, .p R, .p .desk, .p (.lst [dW (sumW fa ga), dW (sumW fb gb)]), .un, .un, .p (.str [103, 98]), .p (dW gb), .un, .un, .un]) (s' := s6) (by simp [l0, l1, r0, r1, su1, su2])]
  rw [exSs_nx (ρ' := [.p (.scr ns), .p L, .p R, .p .desk, .p (.lst [dW (sumW fa ga), dW (sumW fb gb)]), .un, .un, .p (.str [103, 98]), .p (dW gb), .un, .un, .un]) (s' := s6) (by simp [sh1, sh2, tx1, tx2])]
  have cm1 : evE (callN (k + 60)) (.comp false (.ix (.var 11) (.int 0)) (.one 11) (.val (.ix (.ix (.var 1) (.int 0)) (.int 1))) (.bl true)) [.p (.scr ns), .p L, .p R, .p .desk, .p (.lst [dW (sumW fa ga), dW (sumW fb gb)]), .un, .un, .p (.str [103, 98]), .p (dW gb), .un, .un, .un] s6 = some (.lst (A.map .str), s6) := by
    rw [← gfa.a, List.map_map]
    exact ev_comp_m (e := dM) (l := fa.ms) (fun m => .str m.1) (by simp [l0]) (by simp) (by omega) (fun m hm => ⟨_, rfl, by simp⟩)
  have cm2 : evE (callN (k + 60)) (.comp false (.ix (.var 11) (.int 0)) (.one 11) (.val (.ix (.ix (.var 1) (.int 0)) (.int 2))) (.bl true)) [.p (.scr ns), .p L, .p R, .p .desk, .p (.lst [dW (sumW fa ga), dW (sumW fb gb)]), .un, .un, .p (.str [103, 98]), .p (dW gb), .un, .un, .un] s6 = some (.lst (B.map .str), s6) := by
    rw [← gfa.b, List.map_map]
    exact ev_comp_m (e := dA) (l := fa.as) (fun m => .str m.1) (by simp [l0]) (by simp) (by omega) (fun m hm => ⟨_, rfl, by simp⟩)
  rw [exSs_nx (ρ' := [.p (.scr ns), .p L, .p R, .p .desk, .p (.lst [dW (sumW fa ga), dW (sumW fb gb)]), .p (dTn A B), .un, .p (.str [103, 98]), .p (dW gb), .un, .un, .un]) (s' := s6) (by
    unfold dTn
    generalize A.map D.str = AD at *
    generalize B.map D.str = BD at *
    simp [cm1, cm2])]
  obtain ⟨S, hS⟩ : ∃ S, S = D.lst [dW (sumW fa ga), dW (sumW fb gb)] := ⟨_, rfl⟩
  rw [← hS]
  obtain ⟨q, hq⟩ : ∃ q : Nat, evI (callN (k + 60)) (.r3 (.int 40) (.b2 .max2 (.int 41) (.b2 .min2 (.b1 .len1 (.var 0)) (.int 62))) (.int 7)) [.p (.scr ns), .p L, .p R, .p .desk, .p S, .p (dTn A B), .un, .p (.str [103, 98]), .p (dW gb), .un, .un, .un] s6 = some ((List.range q).map fun i => .int (40 + (i : Nat) * 7), s6) := by
    by_cases h1 : (62 : Int) < ns.length
    · refine ⟨((62 - 40 + 7 - 1 : Int) / 7).toNat, ?_⟩
      simp [h1, small?, rngC]
    · by_cases h2 : (41 : Int) < ns.length
      · refine ⟨(((ns.length : Int) - 40 + 7 - 1) / 7).toNat, ?_⟩
        have h3 : small? (ns.length : Int) = true := smallOf (by omega) (by omega)
        have h4 : small? (40 : Int) = true := by decide
        simp [h1, h2, h3, h4, rngC]
      · refine ⟨((41 - 40 + 7 - 1 : Int) / 7).toNat, ?_⟩
        simp [h1, h2, small?, rngC]
  refine run_pre (fun i : Nat => .int (40 + (i : Nat) * 7)) (fun pre ρ => ∃ x6 x9 x10 : Sl, ρ = [.p (.scr ns), .p L, .p R, .p .desk, .p S, .p (dTn A B), x6, .p (.str [103, 98]), .p (dW gb), x9, x10, .un]) (List.range q) hq ⟨.un, .un, .un, rfl⟩ (fun pre i post hpre ρ ⟨x6, x9, x10, e⟩ => ?_) ?_
  · subst e
    obtain ⟨c, hc⟩ := c_cell (s := s6) (k + 59) ns (40 + (i : Nat) * 7) (by omega)
    obtain ⟨ls, hls, hl4, hlok⟩ := c_law_letters (s := s6) (k + 59) (c % 26)
    have hV : Vn ⟨ls, A, B⟩ := ⟨t.a.ok, t.b.ok, hlok⟩
    have hcut : slD (.scr ns) (some (40 + (i : Nat) * 7)) (some (40 + (i : Nat) * 7 + 7)) = some (.lst (((ns.drop (40 + i * 7)).take 7).map .int)) := by
      have := cut_both ns (40 + i * 7) (40 + i * 7 + 7)
      rw [Nat.add_sub_cancel_left] at this
      rw [sl_sc, ← this]
      simp
    obtain ⟨r, hr1, hr2, hr3⟩ := c_law_grown (s := s6) (k + 58) ⟨ls, A, B⟩ hV hl4 ((ns.drop (40 + i * 7)).take 7) (by simp; omega)
    have hpl := c_law_plain (s := s6) 20 r (by omega) (by omega) hr2 (k + 60) (by omega)
    obtain ⟨ψ, hp1, hp2, hp3, hp4⟩ := c_law_closed (s := s6) (k + 44) ⟨ls, A, B⟩ (by simp; omega) (pl r) hr2 (by omega) (c / 128)
    have hab := c_law_about (s := s6) k F ls hl4 hlok ψ hp2 hp3 (by omega)
    rw [← hS] at hab
    refine ⟨_, rfl, [.p (.scr ns), .p L, .p R, .p .desk, .p S, .p (dTn A B), .p (.int (40 + (i : Nat) * 7)), .p (.str [103, 98]), .p (dW gb), .p (.lst (ls.map dC)), .p (dS (pl r)), .un], ?_, _, _, _, rfl⟩
    show exSs (callN (k + 60)) _ [.p (.scr ns), .p L, .p R, .p .desk, .p S, .p (dTn A B), .p (.int (40 + (i : Nat) * 7)), .p (.str [103, 98]), .p (dW gb), x9, x10, .un] s6 = _
    simp only [] at hr1
    generalize ((ns.drop (40 + i * 7)).take 7).map D.int = CS at *
    generalize ls.map dC = LS at *
    generalize dTn A B = T at *
    generalize (40 + (i : Nat) * 7 : Int) = kk at *
    rw [exSs_nx (ρ' := [.p (.scr ns), .p L, .p R, .p .desk, .p S, .p T, .p (.int kk), .p (.str [103, 98]), .p (dW gb), .p (.lst LS), x10, .un]) (s' := s6) (by simp [hc, hls])]
    rw [exSs_nx (ρ' := [.p (.scr ns), .p L, .p R, .p .desk, .p S, .p T, .p (.int kk), .p (.str [103, 98]), .p (dW gb), .p (.lst LS), .p (dS (pl r)), .un]) (s' := s6) (ev_set10 _ _ _ _ _ _ _ _ _ _ _ _ _ _ _ hcut hr1 hpl)]
    rw [exSs_nx (ρ' := [.p (.scr ns), .p L, .p R, .p .desk, .p S, .p T, .p (.int kk), .p (.str [103, 98]), .p (dW gb), .p (.lst LS), .p (dS (pl r)), .un]) (s' := s6) (by simp [hc, hp1, hab])]
    rfl
  · rintro ρ ⟨x6, x9, x10, rfl⟩
    simp
theorem lawD_all (ns : List Int) (h : ns.length ≤ 63) : ∃ ρ1 s, 3 < ρ1.length ∧ exSs (callN 100) b_law0 (startE .law [.scr ns]) [] = some (.nx ρ1 []) ∧ exSs (callN 100) b_law1 (ρ1.set 3 (.p .desk)) [] = some (.rt (.bl true) s) := by
  obtain ⟨A, B, fa, fb, ga, gb, t, w1, w2, w3, w4, h0⟩ := law0 95 ns
  obtain ⟨s, h1⟩ := law1 40 ns h A B fa fb ga gb t w1 w2 w3 w4
  exact ⟨_, s, by simp, h0, h1⟩
end Pk
end
-- PkFinal
set_option Elab.async false
set_option linter.all false
set_option maxRecDepth 100000
set_option maxHeartbeats 0
namespace Pk
open PySem PySem.Spec PyProof.Rows L2
theorem pure_all : ∀ ns : List Int, ns.length ≤ 63 → LawD 100 ns := fun ns h => lawD_all ns h
end Pk
open PySem PySem.W PySem.Calls PyProof.Rows
theorem PySem.Challenge.cw_pickalike_k94_whole_worlds_side_by_side_holds : PySem.Challenge.rw_pickalike_k94_whole_worlds_side_by_side.Holds := by
    refine Pk.early ?_
    refine L2.walk_ofE (l := PySem.Challenge.rw_pickalike_k94_whole_worlds_side_by_side) (n := 63) (k := 101) (x := "_law_script") (CX := L2.CX0) rfl (by decide) (by kernel_rfl) ⟨rfl, by decide, by decide⟩ ?F (fun _ _ _ _ z => z)
    intro w mg fa h Y G hmg0
    obtain ⟨K, KX, c, ex⟩ := Y
    have hmg : mg ("law" : PySem.Str) = some (.ref fa) := by
      have e : (HandSHeadRun.topDef (OpenLaw.row PySem.Challenge.rw_pickalike_k94_whole_worlds_side_by_side).prog 148).name = ("law" : PySem.Str) := by kernel_rfl
      rw [← e]
      exact hmg0
    have F := Pk.ft_of (P := (PySem.Challenge.rw_pickalike_k94_whole_worlds_side_by_side).prog) KX G c ex
    have e1 := hmg.symm.trans (F.W.fnm .law rfl)
    cases e1
    have hD : mg ("Desk" : PySem.Str) = some (.ref (He.ga K "Desk")) := Pk.desk_glo KX G c.d
    obtain ⟨fd, hF⟩ := F.fd .law
    exact ⟨K, fd, Pk.spLaw (Pk.gx _ w K mg), KX, fun s u => Pk.law_bind hF s u, fun H a ns hl _ hS => ⟨a, ns, rfl, hl, hS, fun _ => rfl⟩, fun base _ _ => Pk.law_ok (base := base) rfl F (Pk.mk_of_desk c.d) hD Pk.rest_all 98 Pk.pure_all hF⟩

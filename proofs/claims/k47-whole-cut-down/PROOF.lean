import PyProof.Rows.All
import Wide.All
import OpenK.AllK
import Wide.FinOn
import HandS.ForMost
import HandS.ForExc
import HandS.More
import HandS.Defaults
import HandS.HeadHook1
import HandS.HeadHook2
import HandS.HeadHook3
import HandS.HeadHook4
import PySem.Challenge.RW_pastmill_k47_whole_cut_down
import KE.KStateDown
import Lean
import HandS.Base
import HandS.Call
import HandS.Ends
import HandS.Words
import HandS.WordsExc
import HandS.Head0
import HandS.Head1
import HandS.Head2
import HandS.HeadEnd
import HandS.HeadWalk
import HandS.TupAny
import HandS.TupMul
import HandS.IsInst
import HandS.StrMore
import HandS.Conv
import HandS.Flow
import HandS.Zip
import HandS.Evl
import HandS.Steps
import HandS.SortRule
import HandS.SetKeys
import HandS.Strs
import KE.SortData
import KE.KDictZip
import KE.GoesEnum
import HandS.Sort
import HandS.SortInts
import KE.KDictSum
import HandS.Lambda
import KE.KExcIs
import KE.DataFind
import HandS.Style
set_option Elab.async false
set_option linter.all false
set_option maxRecDepth 100000
/-! part PH -/
set_option maxHeartbeats 4500000
namespace PMH
open PySem PySem.Spec PyProof.Rows L2
def top (i : Nat) : Stmt := PySem.Challenge.pw_pastmill_k47_whole_cut_down.main.body.getD i (.Pass ⟨0, 0, 0, 0⟩)
abbrev s_is_name : Stmt := top 22
abbrev s_is_number : Stmt := top 23
abbrev s_trees_in : Stmt := top 24
abbrev s_parts_of : Stmt := top 25
abbrev s_is_tree : Stmt := top 26
abbrev s_gather : Stmt := top 27
abbrev s_names_in : Stmt := top 28
abbrev s_reckoned : Stmt := top 29
abbrev s_value : Stmt := top 30
abbrev s_is_whole_plain : Stmt := top 36
abbrev s_is_given : Stmt := top 38
abbrev s_need_given : Stmt := top 39
abbrev s_letter_of : Stmt := top 40
abbrev s_first_boxes : Stmt := top 41
abbrev s_state_with : Stmt := top 42
abbrev s_draw_at : Stmt := top 43
abbrev s_put_at : Stmt := top 45
abbrev s_doing_of : Stmt := top 46
abbrev s_behind_doing : Stmt := top 47
abbrev s_behind : Stmt := top 48
abbrev s_number_of : Stmt := top 50
abbrev s_names_of : Stmt := top 51
abbrev s_need_wish : Stmt := top 52
abbrev s_is_so : Stmt := top 53
abbrev s_shows_with : Stmt := top 55
abbrev s_need_asked : Stmt := top 56
abbrev s_shows_left : Stmt := top 57
abbrev s_shows : Stmt := top 58
abbrev s_without : Stmt := top 59
abbrev s_cut_down : Stmt := top 60
abbrev s_are_numbers : Stmt := top 61
abbrev s_cut_good : Stmt := top 62
abbrev s_is_whole_rows : Stmt := top 69
abbrev s_is_tree_of : Stmt := top 71
abbrev s_is_box_of : Stmt := top 72
abbrev s_is_plain_row : Stmt := top 73
abbrev s_many_in : Stmt := top 74
abbrev s_many_by : Stmt := top 75
abbrev s_are_rows : Stmt := top 76
abbrev s_is_pair : Stmt := top 81
abbrev s_are_unlike : Stmt := top 82
abbrev s_are_boxes : Stmt := top 83
abbrev s_are_rules : Stmt := top 84
abbrev s_is_place : Stmt := top 85
abbrev s_is_mill : Stmt := top 86
abbrev s_law_mixed : Stmt := top 89
abbrev s_law_digits : Stmt := top 90
abbrev s_law_next : Stmt := top 91
abbrev s_law_tree : Stmt := top 92
abbrev s_law_row : Stmt := top 93
abbrev s_law_mill_tree : Stmt := top 94
abbrev s_law_given : Stmt := top 95
abbrev s_law_value : Stmt := top 96
abbrev s_law_first : Stmt := top 97
abbrev s_law_rule : Stmt := top 98
abbrev s_law_rows_done : Stmt := top 99
abbrev s_law_done : Stmt := top 100
abbrev s_law_with : Stmt := top 101
abbrev s_law_is_so : Stmt := top 102
abbrev s_law_shown : Stmt := top 103
abbrev s_law_wish : Stmt := top 104
abbrev s_law_class : Stmt := top 105
abbrev s_law_refused : Stmt := top 106
abbrev s_law_cut : Stmt := top 107
abbrev s_law_needed : Stmt := top 108
abbrev s_law_other_mill : Stmt := top 109
abbrev s_law_by : Stmt := top 110
abbrev s_law : Stmt := top 111
abbrev s_Doing_init : Stmt := inClass (top 44) 0
abbrev s_Doing_reads : Stmt := inClass (top 44) 1
abbrev s_Doing_drawn_number : Stmt := inClass (top 44) 2
abbrev s_Doing_do_row : Stmt := inClass (top 44) 3
abbrev s_Doing_do_rows : Stmt := inClass (top 44) 4
abbrev s_Mill_init : Stmt := inClass (top 87) 0
abbrev s_Mill_tree : Stmt := inClass (top 87) 1
abbrev s_Mill_places : Stmt := inClass (top 87) 2
abbrev s_Mill_boxes : Stmt := inClass (top 87) 3
abbrev s_Mill_rule : Stmt := inClass (top 87) 4

def loose0 : List Str := ["MillError", "NoTree", "NoMill", "NoText", "NoLetter", "NoOrder", "NoMoment", "NoHand", "NotNow", "NoRound"]
def loose1 : List Str := ["NoPlace", "NoRow", "TooMany", "LETTERS", "LONGEST", "ROUND", "MOST_PARTS", "MOST_DEEP", "KEPT", "SIGNS"]
def loose2 : List Str := ["is_name", "is_number", "trees_in", "parts_of", "is_tree", "gather", "names_in", "reckoned", "value", "MOST_GIVEN"]
def loose3 : List Str := ["MOST_TIME", "MOST_NUMBER", "MOST_DONE", "is_whole", "is_whole_plain", "is_given", "need_given", "letter_of", "first_boxes", "state_with"]
def loose4 : List Str := ["draw_at", "Doing", "put_at", "doing_of", "behind_doing", "behind", "number_of", "names_of", "need_wish", "is_so"]
def loose5 : List Str := ["shows_with", "need_asked", "shows_left", "shows", "without", "cut_down", "are_numbers", "cut_good", "MOST_ROWS", "MOST_WITHIN"]
def loose6 : List Str := ["LEAST_MANY", "MOST_MANY", "MOST_SPAN", "is_whole_rows", "is_tree_of", "is_box_of", "is_plain_row", "many_in", "many_by", "are_rows"]
def loose7 : List Str := ["MOST_PLACES", "MOST_BOXES", "MOST_RULES", "is_pair", "are_unlike", "are_boxes", "are_rules", "is_place", "is_mill", "Mill"]
def loose8 : List Str := ["_law_mixed", "_law_digits", "_law_next", "_law_tree", "_law_row", "_law_mill_tree", "_law_given", "_law_value", "_law_first", "_law_rule"]
def loose9 : List Str := ["_law_rows_done", "_law_done", "_law_with", "_law_is_so", "_law_shown", "_law_wish", "_law_class", "_law_refused", "_law_cut", "_law_needed"]
def loose10 : List Str := ["_law_other_mill", "_law_by"]
def loose : List Str := loose0 ++ loose1 ++ loose2 ++ loose3 ++ loose4 ++ loose5 ++ loose6 ++ loose7 ++ loose8 ++ loose9 ++ loose10
def d22 : He.DefD := ⟨("is_name", none), "is_name", "is_name", defArgs s_is_name, defBody s_is_name, defScope s_is_name, [], []⟩
def d23 : He.DefD := ⟨("is_number", none), "is_number", "is_number", defArgs s_is_number, defBody s_is_number, defScope s_is_number, [], []⟩
def d24 : He.DefD := ⟨("trees_in", none), "trees_in", "trees_in", defArgs s_trees_in, defBody s_trees_in, defScope s_trees_in, [], []⟩
def d25 : He.DefD := ⟨("parts_of", none), "parts_of", "parts_of", defArgs s_parts_of, defBody s_parts_of, defScope s_parts_of, [], []⟩
def d26 : He.DefD := ⟨("is_tree", none), "is_tree", "is_tree", defArgs s_is_tree, defBody s_is_tree, defScope s_is_tree, [], []⟩
def d27 : He.DefD := ⟨("gather", none), "gather", "gather", defArgs s_gather, defBody s_gather, defScope s_gather, [], []⟩
def d28 : He.DefD := ⟨("names_in", none), "names_in", "names_in", defArgs s_names_in, defBody s_names_in, defScope s_names_in, [], []⟩
def d29 : He.DefD := ⟨("reckoned", none), "reckoned", "reckoned", defArgs s_reckoned, defBody s_reckoned, defScope s_reckoned, [], []⟩
def d30 : He.DefD := ⟨("value", none), "value", "value", defArgs s_value, defBody s_value, defScope s_value, [], []⟩
def d36 : He.DefD := ⟨("is_whole_plain", none), "is_whole", "is_whole", defArgs s_is_whole_plain, defBody s_is_whole_plain, defScope s_is_whole_plain, [], []⟩
def d38 : He.DefD := ⟨("is_given", none), "is_given", "is_given", defArgs s_is_given, defBody s_is_given, defScope s_is_given, [], []⟩
def d39 : He.DefD := ⟨("need_given", none), "need_given", "need_given", defArgs s_need_given, defBody s_need_given, defScope s_need_given, [], []⟩
def d40 : He.DefD := ⟨("letter_of", none), "letter_of", "letter_of", defArgs s_letter_of, defBody s_letter_of, defScope s_letter_of, [], []⟩
def d41 : He.DefD := ⟨("first_boxes", none), "first_boxes", "first_boxes", defArgs s_first_boxes, defBody s_first_boxes, defScope s_first_boxes, [], []⟩
def d42 : He.DefD := ⟨("state_with", none), "state_with", "state_with", defArgs s_state_with, defBody s_state_with, defScope s_state_with, [], []⟩
def d43 : He.DefD := ⟨("draw_at", none), "draw_at", "draw_at", defArgs s_draw_at, defBody s_draw_at, defScope s_draw_at, [], []⟩
def d45 : He.DefD := ⟨("put_at", none), "put_at", "put_at", defArgs s_put_at, defBody s_put_at, defScope s_put_at, [], []⟩
def d46 : He.DefD := ⟨("doing_of", none), "doing_of", "doing_of", defArgs s_doing_of, defBody s_doing_of, defScope s_doing_of, [.non], []⟩
def d47 : He.DefD := ⟨("behind_doing", none), "behind_doing", "behind_doing", defArgs s_behind_doing, defBody s_behind_doing, defScope s_behind_doing, [], []⟩
def d48 : He.DefD := ⟨("behind", none), "behind", "behind", defArgs s_behind, defBody s_behind, defScope s_behind, [], []⟩
def d50 : He.DefD := ⟨("number_of", none), "number_of", "number_of", defArgs s_number_of, defBody s_number_of, defScope s_number_of, [], []⟩
def d51 : He.DefD := ⟨("names_of", none), "names_of", "names_of", defArgs s_names_of, defBody s_names_of, defScope s_names_of, [], []⟩
def d52 : He.DefD := ⟨("need_wish", none), "need_wish", "need_wish", defArgs s_need_wish, defBody s_need_wish, defScope s_need_wish, [], []⟩
def d53 : He.DefD := ⟨("is_so", none), "is_so", "is_so", defArgs s_is_so, defBody s_is_so, defScope s_is_so, [], []⟩
def d55 : He.DefD := ⟨("shows_with", none), "shows_with", "shows_with", defArgs s_shows_with, defBody s_shows_with, defScope s_shows_with, [], []⟩
def d56 : He.DefD := ⟨("need_asked", none), "need_asked", "need_asked", defArgs s_need_asked, defBody s_need_asked, defScope s_need_asked, [], []⟩
def d57 : He.DefD := ⟨("shows_left", none), "shows_left", "shows_left", defArgs s_shows_left, defBody s_shows_left, defScope s_shows_left, [], []⟩
def d58 : He.DefD := ⟨("shows", none), "shows", "shows", defArgs s_shows, defBody s_shows, defScope s_shows, [], []⟩
def d59 : He.DefD := ⟨("without", none), "without", "without", defArgs s_without, defBody s_without, defScope s_without, [], []⟩
def d60 : He.DefD := ⟨("cut_down", none), "cut_down", "cut_down", defArgs s_cut_down, defBody s_cut_down, defScope s_cut_down, [], []⟩
def d61 : He.DefD := ⟨("are_numbers", none), "are_numbers", "are_numbers", defArgs s_are_numbers, defBody s_are_numbers, defScope s_are_numbers, [], []⟩
def d62 : He.DefD := ⟨("cut_good", none), "cut_good", "cut_good", defArgs s_cut_good, defBody s_cut_good, defScope s_cut_good, [], []⟩
def d69 : He.DefD := ⟨("is_whole_rows", none), "is_whole", "is_whole", defArgs s_is_whole_rows, defBody s_is_whole_rows, defScope s_is_whole_rows, [], []⟩
def d71 : He.DefD := ⟨("is_tree_of", none), "is_tree_of", "is_tree_of", defArgs s_is_tree_of, defBody s_is_tree_of, defScope s_is_tree_of, [], []⟩
def d72 : He.DefD := ⟨("is_box_of", none), "is_box_of", "is_box_of", defArgs s_is_box_of, defBody s_is_box_of, defScope s_is_box_of, [], []⟩
def d73 : He.DefD := ⟨("is_plain_row", none), "is_plain_row", "is_plain_row", defArgs s_is_plain_row, defBody s_is_plain_row, defScope s_is_plain_row, [], []⟩
def d74 : He.DefD := ⟨("many_in", none), "many_in", "many_in", defArgs s_many_in, defBody s_many_in, defScope s_many_in, [], []⟩
def d75 : He.DefD := ⟨("many_by", none), "many_by", "many_by", defArgs s_many_by, defBody s_many_by, defScope s_many_by, [], []⟩
def d76 : He.DefD := ⟨("are_rows", none), "are_rows", "are_rows", defArgs s_are_rows, defBody s_are_rows, defScope s_are_rows, [], []⟩
def d81 : He.DefD := ⟨("is_pair", none), "is_pair", "is_pair", defArgs s_is_pair, defBody s_is_pair, defScope s_is_pair, [], []⟩
def d82 : He.DefD := ⟨("are_unlike", none), "are_unlike", "are_unlike", defArgs s_are_unlike, defBody s_are_unlike, defScope s_are_unlike, [], []⟩
def d83 : He.DefD := ⟨("are_boxes", none), "are_boxes", "are_boxes", defArgs s_are_boxes, defBody s_are_boxes, defScope s_are_boxes, [], []⟩
def d84 : He.DefD := ⟨("are_rules", none), "are_rules", "are_rules", defArgs s_are_rules, defBody s_are_rules, defScope s_are_rules, [], []⟩
def d85 : He.DefD := ⟨("is_place", none), "is_place", "is_place", defArgs s_is_place, defBody s_is_place, defScope s_is_place, [], []⟩
def d86 : He.DefD := ⟨("is_mill", none), "is_mill", "is_mill", defArgs s_is_mill, defBody s_is_mill, defScope s_is_mill, [], []⟩
def d89 : He.DefD := ⟨("_law_mixed", none), "_law_mixed", "_law_mixed", defArgs s_law_mixed, defBody s_law_mixed, defScope s_law_mixed, [], []⟩
def d90 : He.DefD := ⟨("_law_digits", none), "_law_digits", "_law_digits", defArgs s_law_digits, defBody s_law_digits, defScope s_law_digits, [], []⟩
def d91 : He.DefD := ⟨("_law_next", none), "_law_next", "_law_next", defArgs s_law_next, defBody s_law_next, defScope s_law_next, [], []⟩
def d92 : He.DefD := ⟨("_law_tree", none), "_law_tree", "_law_tree", defArgs s_law_tree, defBody s_law_tree, defScope s_law_tree, [], []⟩
def d93 : He.DefD := ⟨("_law_row", none), "_law_row", "_law_row", defArgs s_law_row, defBody s_law_row, defScope s_law_row, [], []⟩
def d94 : He.DefD := ⟨("_law_mill_tree", none), "_law_mill_tree", "_law_mill_tree", defArgs s_law_mill_tree, defBody s_law_mill_tree, defScope s_law_mill_tree, [], []⟩
def d95 : He.DefD := ⟨("_law_given", none), "_law_given", "_law_given", defArgs s_law_given, defBody s_law_given, defScope s_law_given, [], []⟩
def d96 : He.DefD := ⟨("_law_value", none), "_law_value", "_law_value", defArgs s_law_value, defBody s_law_value, defScope s_law_value, [], []⟩
def d97 : He.DefD := ⟨("_law_first", none), "_law_first", "_law_first", defArgs s_law_first, defBody s_law_first, defScope s_law_first, [], []⟩
def d98 : He.DefD := ⟨("_law_rule", none), "_law_rule", "_law_rule", defArgs s_law_rule, defBody s_law_rule, defScope s_law_rule, [], []⟩
def d99 : He.DefD := ⟨("_law_rows_done", none), "_law_rows_done", "_law_rows_done", defArgs s_law_rows_done, defBody s_law_rows_done, defScope s_law_rows_done, [], []⟩
def d100 : He.DefD := ⟨("_law_done", none), "_law_done", "_law_done", defArgs s_law_done, defBody s_law_done, defScope s_law_done, [], []⟩
def d101 : He.DefD := ⟨("_law_with", none), "_law_with", "_law_with", defArgs s_law_with, defBody s_law_with, defScope s_law_with, [], []⟩
def d102 : He.DefD := ⟨("_law_is_so", none), "_law_is_so", "_law_is_so", defArgs s_law_is_so, defBody s_law_is_so, defScope s_law_is_so, [], []⟩
def d103 : He.DefD := ⟨("_law_shown", none), "_law_shown", "_law_shown", defArgs s_law_shown, defBody s_law_shown, defScope s_law_shown, [], []⟩
def d104 : He.DefD := ⟨("_law_wish", none), "_law_wish", "_law_wish", defArgs s_law_wish, defBody s_law_wish, defScope s_law_wish, [], []⟩
def d105 : He.DefD := ⟨("_law_class", none), "_law_class", "_law_class", defArgs s_law_class, defBody s_law_class, defScope s_law_class, [], []⟩
def d106 : He.DefD := ⟨("_law_refused", none), "_law_refused", "_law_refused", defArgs s_law_refused, defBody s_law_refused, defScope s_law_refused, [], []⟩
def d107 : He.DefD := ⟨("_law_cut", none), "_law_cut", "_law_cut", defArgs s_law_cut, defBody s_law_cut, defScope s_law_cut, [], []⟩
def d108 : He.DefD := ⟨("_law_needed", none), "_law_needed", "_law_needed", defArgs s_law_needed, defBody s_law_needed, defScope s_law_needed, [], []⟩
def d109 : He.DefD := ⟨("_law_other_mill", none), "_law_other_mill", "_law_other_mill", defArgs s_law_other_mill, defBody s_law_other_mill, defScope s_law_other_mill, [], []⟩
def d110 : He.DefD := ⟨("_law_by", none), "_law_by", "_law_by", defArgs s_law_by, defBody s_law_by, defScope s_law_by, [], []⟩
def d111 : He.DefD := ⟨("law", none), "law", "law", defArgs s_law, defBody s_law, defScope s_law, [], []⟩
def d44_0 : He.DefD := ⟨("Doing", some "__init__"), "__init__", "Doing.__init__", defArgs s_Doing_init, defBody s_Doing_init, defScope s_Doing_init, [], []⟩
def d44_1 : He.DefD := ⟨("Doing", some "reads"), "reads", "Doing.reads", defArgs s_Doing_reads, defBody s_Doing_reads, defScope s_Doing_reads, [], []⟩
def d44_2 : He.DefD := ⟨("Doing", some "drawn_number"), "drawn_number", "Doing.drawn_number", defArgs s_Doing_drawn_number, defBody s_Doing_drawn_number, defScope s_Doing_drawn_number, [], []⟩
def d44_3 : He.DefD := ⟨("Doing", some "do_row"), "do_row", "Doing.do_row", defArgs s_Doing_do_row, defBody s_Doing_do_row, defScope s_Doing_do_row, [], []⟩
def d44_4 : He.DefD := ⟨("Doing", some "do_rows"), "do_rows", "Doing.do_rows", defArgs s_Doing_do_rows, defBody s_Doing_do_rows, defScope s_Doing_do_rows, [], []⟩
def d87_0 : He.DefD := ⟨("Mill", some "__init__"), "__init__", "Mill.__init__", defArgs s_Mill_init, defBody s_Mill_init, defScope s_Mill_init, [], []⟩
def d87_1 : He.DefD := ⟨("Mill", some "tree"), "tree", "Mill.tree", defArgs s_Mill_tree, defBody s_Mill_tree, defScope s_Mill_tree, [], []⟩
def d87_2 : He.DefD := ⟨("Mill", some "places"), "places", "Mill.places", defArgs s_Mill_places, defBody s_Mill_places, defScope s_Mill_places, [], []⟩
def d87_3 : He.DefD := ⟨("Mill", some "boxes"), "boxes", "Mill.boxes", defArgs s_Mill_boxes, defBody s_Mill_boxes, defScope s_Mill_boxes, [], []⟩
def d87_4 : He.DefD := ⟨("Mill", some "rule"), "rule", "Mill.rule", defArgs s_Mill_rule, defBody s_Mill_rule, defScope s_Mill_rule, [], []⟩
def fns0 : List He.DefD := [d22, d23, d24, d25, d26, d27, d28, d29, d30, d36]
def fns1 : List He.DefD := [d38, d39, d40, d41, d42, d43, d45, d46, d47, d48]
def fns2 : List He.DefD := [d50, d51, d52, d53, d55, d56, d57, d58, d59, d60]
def fns3 : List He.DefD := [d61, d62, d69, d71, d72, d73, d74, d75, d76, d81]
def fns4 : List He.DefD := [d82, d83, d84, d85, d86, d89, d90, d91, d92, d93]
def fns5 : List He.DefD := [d94, d95, d96, d97, d98, d99, d100, d101, d102, d103]
def fns6 : List He.DefD := [d104, d105, d106, d107, d108, d109, d110, d111, d44_0, d44_1]
def fns7 : List He.DefD := [d44_2, d44_3, d44_4, d87_0, d87_1, d87_2, d87_3, d87_4]
def fns : List He.DefD := fns0 ++ fns1 ++ fns2 ++ fns3 ++ fns4 ++ fns5 ++ fns6 ++ fns7
def fa0 : List He.Fa := [.glo "is_name", .glo "is_number", .glo "trees_in", .glo "parts_of", .glo "is_tree", .glo "gather", .glo "names_in", .glo "reckoned", .glo "value", .glo "is_whole_plain"]
def fa1 : List He.Fa := [.glo "is_given", .glo "need_given", .glo "letter_of", .glo "first_boxes", .glo "state_with", .glo "draw_at", .glo "put_at", .glo "doing_of", .glo "behind_doing", .glo "behind"]
def fa2 : List He.Fa := [.glo "number_of", .glo "names_of", .glo "need_wish", .glo "is_so", .glo "shows_with", .glo "need_asked", .glo "shows_left", .glo "shows", .glo "without", .glo "cut_down"]
def fa3 : List He.Fa := [.glo "are_numbers", .glo "cut_good", .glo "is_whole_rows", .glo "is_tree_of", .glo "is_box_of", .glo "is_plain_row", .glo "many_in", .glo "many_by", .glo "are_rows", .glo "is_pair"]
def fa4 : List He.Fa := [.glo "are_unlike", .glo "are_boxes", .glo "are_rules", .glo "is_place", .glo "is_mill", .glo "_law_mixed", .glo "_law_digits", .glo "_law_next", .glo "_law_tree", .glo "_law_row"]
def fa5 : List He.Fa := [.glo "_law_mill_tree", .glo "_law_given", .glo "_law_value", .glo "_law_first", .glo "_law_rule", .glo "_law_rows_done", .glo "_law_done", .glo "_law_with", .glo "_law_is_so", .glo "_law_shown"]
def fa6 : List He.Fa := [.glo "_law_wish", .glo "_law_class", .glo "_law_refused", .glo "_law_cut", .glo "_law_needed", .glo "_law_other_mill", .glo "_law_by", .glo "law", .glo "Doing", .cls "Doing"]
def fa7 : List He.Fa := [.mkr "Doing", .glo "Mill", .cls "Mill", .mkr "Mill", .noat "Doing" "mill", .noat "Doing" "time", .noat "Doing" "place", .noat "Doing" "load", .noat "Doing" "numbers", .noat "Doing" "draws"]
def fa8 : List He.Fa := [.noat "Doing" "posted", .noat "Doing" "out", .noat "Doing" "fixed", .noat "Doing" "manies", .noat "Mill" "told_so", .meth "Doing" "reads", .meth "Doing" "drawn_number", .meth "Doing" "do_row", .meth "Doing" "do_rows", .meth "Mill" "tree"]
def fa9 : List He.Fa := [.meth "Mill" "places", .meth "Mill" "boxes", .meth "Mill" "rule", .glo "MillError", .glo "NoTree", .glo "NoMill", .glo "NoText", .glo "NoLetter", .glo "NoOrder", .glo "NoMoment"]
def fa10 : List He.Fa := [.glo "NoHand", .glo "NotNow", .glo "NoRound", .glo "NoPlace", .glo "NoRow", .glo "TooMany", .exc "NoRow", .exm "NoRow" "MillError" true, .str "LETTERS" "abcdefghijklmnopqrstuvwxyz", .int "LONGEST" 6]
def fa11 : List He.Fa := [.int "ROUND" 100, .int "MOST_PARTS" 30, .int "MOST_DEEP" 6, .glo "KEPT", .glo "SIGNS", .int "MOST_GIVEN" 40, .int "MOST_TIME" 1000000000, .int "MOST_NUMBER" 99, .int "MOST_DONE" 400, .int "MOST_ROWS" 12]
def fa12 : List He.Fa := [.int "MOST_WITHIN" 3, .int "LEAST_MANY" 2, .int "MOST_MANY" 4, .int "MOST_SPAN" 20, .int "MOST_PLACES" 6, .int "MOST_BOXES" 4, .int "MOST_RULES" 4, .free "isinstance", .free "len", .free "int"]
def fa13 : List He.Fa := [.free "str", .free "bool", .free "tuple", .free "list", .free "sum", .free "all", .free "any", .free "sorted", .free "range", .free "set"]
def fa14 : List He.Fa := [.free "zip", .free "dict", .free "enumerate", .free "min", .free "abs", .free "ValueError"]
def fas : List He.Fa := fa0 ++ fa1 ++ fa2 ++ fa3 ++ fa4 ++ fa5 ++ fa6 ++ fa7 ++ fa8 ++ fa9 ++ fa10 ++ fa11 ++ fa12 ++ fa13 ++ fa14

def tbs : List He.Tab := [(fun K => He.ga K "SIGNS", ["plus", "minus", "times", "less", "same"])]
def tfs : List He.Defn := [("_law_by", none)]
def sgn : List (Str × He.Dv) := [("plus", .str "+"), ("minus", .str "-"), ("times", .str "*"), ("less", .str "<"), ("same", .str "=")]
def kits (K : PySem.W.Frag) : Bool := decide (PySem.W.kitOne K (.ref (He.ga K "NoRow")) (.ref (He.ga K "MillError")) = some true) && decide (PySem.W.kitOne K (.ref (He.ga K "NoRow")) (.ref (He.ga K "NoTree")) = some false) && decide (PySem.W.kitOne K (.ref (He.ga K "NoRow")) (.ref (He.ga K "NoMill")) = some false) && decide (PySem.W.kitOne K (.ref (He.ga K "NoRow")) (.ref (He.ga K "NoText")) = some false) && decide (PySem.W.kitOne K (.ref (He.ga K "NoRow")) (.ref (He.ga K "NoLetter")) = some false) && decide (PySem.W.kitOne K (.ref (He.ga K "NoRow")) (.ref (He.ga K "NoOrder")) = some false) && decide (PySem.W.kitOne K (.ref (He.ga K "NoRow")) (.ref (He.ga K "NoMoment")) = some false) && decide (PySem.W.kitOne K (.ref (He.ga K "NoRow")) (.ref (He.ga K "NoHand")) = some false) && decide (PySem.W.kitOne K (.ref (He.ga K "NoRow")) (.ref (He.ga K "NotNow")) = some false) && decide (PySem.W.kitOne K (.ref (He.ga K "NoRow")) (.ref (He.ga K "NoRound")) = some false) && decide (PySem.W.kitOne K (.ref (He.ga K "NoRow")) (.ref (He.ga K "NoPlace")) = some false) && decide (PySem.W.kitOne K (.ref (He.ga K "NoRow")) (.ref (He.ga K "NoRow")) = some true) && decide (PySem.W.kitOne K (.ref (He.ga K "NoRow")) (.ref (He.ga K "TooMany")) = some false) && decide (PySem.W.kitOne K (.ref (He.ga K "NoRow")) (.type "ValueError") = some true)
def exF (K : PySem.W.Frag) : Bool := (PySem.W.clsIn K (He.ga K "NoRow")).isSome && (He.eqO (PySem.W.findIn K (.ref (He.ga K "NoRow")) "__getattribute__") (some (some (.builtin "BaseException.__getattribute__"))) && ((PySem.W.findIn K (.ref (He.ga K "NoRow")) "__getattr__").isSome && (He.eqO (PySem.W.findIn K (.ref (He.ga K "NoRow")) "__class__") (some (some (.builtin "object.__class__"))) && (He.eqO (PySem.W.specialIn K (.builtin "object.__class__") "__get__") (some (some (.builtin "getset_descriptor.__get__"))) && (decide (PySem.W.takesIn K (.builtin "object.__class__") = some true) && decide (PySem.W.mroIn K (He.ga K "NoRow") (.type "object") = some true))))))
def exB (K : PySem.W.Frag) : Bool := He.tupB K "KEPT" [.str "load", .str "now"] && (He.valsB K (He.ga K "SIGNS") sgn && (He.eqO (PySem.W.nsIn K (He.ga K "SIGNS") "num") (some none) && (He.eqO (PySem.W.nsIn K (He.ga K "SIGNS") "load") (some none) && (He.eqO (PySem.W.nsIn K (He.ga K "SIGNS") "now") (some none) && (kits K && exF K)))))
/-- what the walk leans on: the head's facts -/
structure TX (w : World) (K : PySem.W.Frag) (mg : Str → Option Value) : Prop where
  ex : ∃ h : Heap, K.In h ∧ h.Ns mainGlobals mg
  d : He.SaysD fas fns K
  tab : ∃ es n, KDict K w (He.ga K "SIGNS") es n
  more : exB K = true
section
variable {w : World} {K : PySem.W.Frag} {mg : Str → Option Value}
theorem TX.g_is_name (T : TX w K mg) : mg "is_name" = some (.ref (He.ga K "is_name")) := by obtain ⟨h, X, G⟩ := T.ex; exact He.glo_ok X G (T.d.fact 0 (f := .glo "is_name") rfl)
theorem TX.g_is_number (T : TX w K mg) : mg "is_number" = some (.ref (He.ga K "is_number")) := by obtain ⟨h, X, G⟩ := T.ex; exact He.glo_ok X G (T.d.fact 1 (f := .glo "is_number") rfl)
theorem TX.g_trees_in (T : TX w K mg) : mg "trees_in" = some (.ref (He.ga K "trees_in")) := by obtain ⟨h, X, G⟩ := T.ex; exact He.glo_ok X G (T.d.fact 2 (f := .glo "trees_in") rfl)
theorem TX.g_parts_of (T : TX w K mg) : mg "parts_of" = some (.ref (He.ga K "parts_of")) := by obtain ⟨h, X, G⟩ := T.ex; exact He.glo_ok X G (T.d.fact 3 (f := .glo "parts_of") rfl)
theorem TX.g_is_tree (T : TX w K mg) : mg "is_tree" = some (.ref (He.ga K "is_tree")) := by obtain ⟨h, X, G⟩ := T.ex; exact He.glo_ok X G (T.d.fact 4 (f := .glo "is_tree") rfl)
theorem TX.g_gather (T : TX w K mg) : mg "gather" = some (.ref (He.ga K "gather")) := by obtain ⟨h, X, G⟩ := T.ex; exact He.glo_ok X G (T.d.fact 5 (f := .glo "gather") rfl)
theorem TX.g_names_in (T : TX w K mg) : mg "names_in" = some (.ref (He.ga K "names_in")) := by obtain ⟨h, X, G⟩ := T.ex; exact He.glo_ok X G (T.d.fact 6 (f := .glo "names_in") rfl)
theorem TX.g_reckoned (T : TX w K mg) : mg "reckoned" = some (.ref (He.ga K "reckoned")) := by obtain ⟨h, X, G⟩ := T.ex; exact He.glo_ok X G (T.d.fact 7 (f := .glo "reckoned") rfl)
theorem TX.g_value (T : TX w K mg) : mg "value" = some (.ref (He.ga K "value")) := by obtain ⟨h, X, G⟩ := T.ex; exact He.glo_ok X G (T.d.fact 8 (f := .glo "value") rfl)
theorem TX.g_is_whole_plain (T : TX w K mg) : mg "is_whole_plain" = some (.ref (He.ga K "is_whole_plain")) := by obtain ⟨h, X, G⟩ := T.ex; exact He.glo_ok X G (T.d.fact 9 (f := .glo "is_whole_plain") rfl)
theorem TX.g_is_given (T : TX w K mg) : mg "is_given" = some (.ref (He.ga K "is_given")) := by obtain ⟨h, X, G⟩ := T.ex; exact He.glo_ok X G (T.d.fact 10 (f := .glo "is_given") rfl)
theorem TX.g_need_given (T : TX w K mg) : mg "need_given" = some (.ref (He.ga K "need_given")) := by obtain ⟨h, X, G⟩ := T.ex; exact He.glo_ok X G (T.d.fact 11 (f := .glo "need_given") rfl)
theorem TX.g_letter_of (T : TX w K mg) : mg "letter_of" = some (.ref (He.ga K "letter_of")) := by obtain ⟨h, X, G⟩ := T.ex; exact He.glo_ok X G (T.d.fact 12 (f := .glo "letter_of") rfl)
theorem TX.g_first_boxes (T : TX w K mg) : mg "first_boxes" = some (.ref (He.ga K "first_boxes")) := by obtain ⟨h, X, G⟩ := T.ex; exact He.glo_ok X G (T.d.fact 13 (f := .glo "first_boxes") rfl)
theorem TX.g_state_with (T : TX w K mg) : mg "state_with" = some (.ref (He.ga K "state_with")) := by obtain ⟨h, X, G⟩ := T.ex; exact He.glo_ok X G (T.d.fact 14 (f := .glo "state_with") rfl)
theorem TX.g_draw_at (T : TX w K mg) : mg "draw_at" = some (.ref (He.ga K "draw_at")) := by obtain ⟨h, X, G⟩ := T.ex; exact He.glo_ok X G (T.d.fact 15 (f := .glo "draw_at") rfl)
theorem TX.g_put_at (T : TX w K mg) : mg "put_at" = some (.ref (He.ga K "put_at")) := by obtain ⟨h, X, G⟩ := T.ex; exact He.glo_ok X G (T.d.fact 16 (f := .glo "put_at") rfl)
theorem TX.g_doing_of (T : TX w K mg) : mg "doing_of" = some (.ref (He.ga K "doing_of")) := by obtain ⟨h, X, G⟩ := T.ex; exact He.glo_ok X G (T.d.fact 17 (f := .glo "doing_of") rfl)
theorem TX.g_behind_doing (T : TX w K mg) : mg "behind_doing" = some (.ref (He.ga K "behind_doing")) := by obtain ⟨h, X, G⟩ := T.ex; exact He.glo_ok X G (T.d.fact 18 (f := .glo "behind_doing") rfl)
theorem TX.g_behind (T : TX w K mg) : mg "behind" = some (.ref (He.ga K "behind")) := by obtain ⟨h, X, G⟩ := T.ex; exact He.glo_ok X G (T.d.fact 19 (f := .glo "behind") rfl)
theorem TX.g_number_of (T : TX w K mg) : mg "number_of" = some (.ref (He.ga K "number_of")) := by obtain ⟨h, X, G⟩ := T.ex; exact He.glo_ok X G (T.d.fact 20 (f := .glo "number_of") rfl)
theorem TX.g_names_of (T : TX w K mg) : mg "names_of" = some (.ref (He.ga K "names_of")) := by obtain ⟨h, X, G⟩ := T.ex; exact He.glo_ok X G (T.d.fact 21 (f := .glo "names_of") rfl)
theorem TX.g_need_wish (T : TX w K mg) : mg "need_wish" = some (.ref (He.ga K "need_wish")) := by obtain ⟨h, X, G⟩ := T.ex; exact He.glo_ok X G (T.d.fact 22 (f := .glo "need_wish") rfl)
theorem TX.g_is_so (T : TX w K mg) : mg "is_so" = some (.ref (He.ga K "is_so")) := by obtain ⟨h, X, G⟩ := T.ex; exact He.glo_ok X G (T.d.fact 23 (f := .glo "is_so") rfl)
theorem TX.g_shows_with (T : TX w K mg) : mg "shows_with" = some (.ref (He.ga K "shows_with")) := by obtain ⟨h, X, G⟩ := T.ex; exact He.glo_ok X G (T.d.fact 24 (f := .glo "shows_with") rfl)
theorem TX.g_need_asked (T : TX w K mg) : mg "need_asked" = some (.ref (He.ga K "need_asked")) := by obtain ⟨h, X, G⟩ := T.ex; exact He.glo_ok X G (T.d.fact 25 (f := .glo "need_asked") rfl)
theorem TX.g_shows_left (T : TX w K mg) : mg "shows_left" = some (.ref (He.ga K "shows_left")) := by obtain ⟨h, X, G⟩ := T.ex; exact He.glo_ok X G (T.d.fact 26 (f := .glo "shows_left") rfl)
theorem TX.g_shows (T : TX w K mg) : mg "shows" = some (.ref (He.ga K "shows")) := by obtain ⟨h, X, G⟩ := T.ex; exact He.glo_ok X G (T.d.fact 27 (f := .glo "shows") rfl)
theorem TX.g_without (T : TX w K mg) : mg "without" = some (.ref (He.ga K "without")) := by obtain ⟨h, X, G⟩ := T.ex; exact He.glo_ok X G (T.d.fact 28 (f := .glo "without") rfl)
theorem TX.g_cut_down (T : TX w K mg) : mg "cut_down" = some (.ref (He.ga K "cut_down")) := by obtain ⟨h, X, G⟩ := T.ex; exact He.glo_ok X G (T.d.fact 29 (f := .glo "cut_down") rfl)
theorem TX.g_are_numbers (T : TX w K mg) : mg "are_numbers" = some (.ref (He.ga K "are_numbers")) := by obtain ⟨h, X, G⟩ := T.ex; exact He.glo_ok X G (T.d.fact 30 (f := .glo "are_numbers") rfl)
theorem TX.g_cut_good (T : TX w K mg) : mg "cut_good" = some (.ref (He.ga K "cut_good")) := by obtain ⟨h, X, G⟩ := T.ex; exact He.glo_ok X G (T.d.fact 31 (f := .glo "cut_good") rfl)
theorem TX.g_is_whole_rows (T : TX w K mg) : mg "is_whole_rows" = some (.ref (He.ga K "is_whole_rows")) := by obtain ⟨h, X, G⟩ := T.ex; exact He.glo_ok X G (T.d.fact 32 (f := .glo "is_whole_rows") rfl)
theorem TX.g_is_tree_of (T : TX w K mg) : mg "is_tree_of" = some (.ref (He.ga K "is_tree_of")) := by obtain ⟨h, X, G⟩ := T.ex; exact He.glo_ok X G (T.d.fact 33 (f := .glo "is_tree_of") rfl)
theorem TX.g_is_box_of (T : TX w K mg) : mg "is_box_of" = some (.ref (He.ga K "is_box_of")) := by obtain ⟨h, X, G⟩ := T.ex; exact He.glo_ok X G (T.d.fact 34 (f := .glo "is_box_of") rfl)
theorem TX.g_is_plain_row (T : TX w K mg) : mg "is_plain_row" = some (.ref (He.ga K "is_plain_row")) := by obtain ⟨h, X, G⟩ := T.ex; exact He.glo_ok X G (T.d.fact 35 (f := .glo "is_plain_row") rfl)
theorem TX.g_many_in (T : TX w K mg) : mg "many_in" = some (.ref (He.ga K "many_in")) := by obtain ⟨h, X, G⟩ := T.ex; exact He.glo_ok X G (T.d.fact 36 (f := .glo "many_in") rfl)
theorem TX.g_many_by (T : TX w K mg) : mg "many_by" = some (.ref (He.ga K "many_by")) := by obtain ⟨h, X, G⟩ := T.ex; exact He.glo_ok X G (T.d.fact 37 (f := .glo "many_by") rfl)
theorem TX.g_are_rows (T : TX w K mg) : mg "are_rows" = some (.ref (He.ga K "are_rows")) := by obtain ⟨h, X, G⟩ := T.ex; exact He.glo_ok X G (T.d.fact 38 (f := .glo "are_rows") rfl)
theorem TX.g_is_pair (T : TX w K mg) : mg "is_pair" = some (.ref (He.ga K "is_pair")) := by obtain ⟨h, X, G⟩ := T.ex; exact He.glo_ok X G (T.d.fact 39 (f := .glo "is_pair") rfl)
theorem TX.g_are_unlike (T : TX w K mg) : mg "are_unlike" = some (.ref (He.ga K "are_unlike")) := by obtain ⟨h, X, G⟩ := T.ex; exact He.glo_ok X G (T.d.fact 40 (f := .glo "are_unlike") rfl)
theorem TX.g_are_boxes (T : TX w K mg) : mg "are_boxes" = some (.ref (He.ga K "are_boxes")) := by obtain ⟨h, X, G⟩ := T.ex; exact He.glo_ok X G (T.d.fact 41 (f := .glo "are_boxes") rfl)
theorem TX.g_are_rules (T : TX w K mg) : mg "are_rules" = some (.ref (He.ga K "are_rules")) := by obtain ⟨h, X, G⟩ := T.ex; exact He.glo_ok X G (T.d.fact 42 (f := .glo "are_rules") rfl)
theorem TX.g_is_place (T : TX w K mg) : mg "is_place" = some (.ref (He.ga K "is_place")) := by obtain ⟨h, X, G⟩ := T.ex; exact He.glo_ok X G (T.d.fact 43 (f := .glo "is_place") rfl)
theorem TX.g_is_mill (T : TX w K mg) : mg "is_mill" = some (.ref (He.ga K "is_mill")) := by obtain ⟨h, X, G⟩ := T.ex; exact He.glo_ok X G (T.d.fact 44 (f := .glo "is_mill") rfl)
theorem TX.g_law_mixed (T : TX w K mg) : mg "_law_mixed" = some (.ref (He.ga K "_law_mixed")) := by obtain ⟨h, X, G⟩ := T.ex; exact He.glo_ok X G (T.d.fact 45 (f := .glo "_law_mixed") rfl)
theorem TX.g_law_digits (T : TX w K mg) : mg "_law_digits" = some (.ref (He.ga K "_law_digits")) := by obtain ⟨h, X, G⟩ := T.ex; exact He.glo_ok X G (T.d.fact 46 (f := .glo "_law_digits") rfl)
theorem TX.g_law_next (T : TX w K mg) : mg "_law_next" = some (.ref (He.ga K "_law_next")) := by obtain ⟨h, X, G⟩ := T.ex; exact He.glo_ok X G (T.d.fact 47 (f := .glo "_law_next") rfl)
theorem TX.g_law_tree (T : TX w K mg) : mg "_law_tree" = some (.ref (He.ga K "_law_tree")) := by obtain ⟨h, X, G⟩ := T.ex; exact He.glo_ok X G (T.d.fact 48 (f := .glo "_law_tree") rfl)
theorem TX.g_law_row (T : TX w K mg) : mg "_law_row" = some (.ref (He.ga K "_law_row")) := by obtain ⟨h, X, G⟩ := T.ex; exact He.glo_ok X G (T.d.fact 49 (f := .glo "_law_row") rfl)
theorem TX.g_law_mill_tree (T : TX w K mg) : mg "_law_mill_tree" = some (.ref (He.ga K "_law_mill_tree")) := by obtain ⟨h, X, G⟩ := T.ex; exact He.glo_ok X G (T.d.fact 50 (f := .glo "_law_mill_tree") rfl)
theorem TX.g_law_given (T : TX w K mg) : mg "_law_given" = some (.ref (He.ga K "_law_given")) := by obtain ⟨h, X, G⟩ := T.ex; exact He.glo_ok X G (T.d.fact 51 (f := .glo "_law_given") rfl)
theorem TX.g_law_value (T : TX w K mg) : mg "_law_value" = some (.ref (He.ga K "_law_value")) := by obtain ⟨h, X, G⟩ := T.ex; exact He.glo_ok X G (T.d.fact 52 (f := .glo "_law_value") rfl)
theorem TX.g_law_first (T : TX w K mg) : mg "_law_first" = some (.ref (He.ga K "_law_first")) := by obtain ⟨h, X, G⟩ := T.ex; exact He.glo_ok X G (T.d.fact 53 (f := .glo "_law_first") rfl)
theorem TX.g_law_rule (T : TX w K mg) : mg "_law_rule" = some (.ref (He.ga K "_law_rule")) := by obtain ⟨h, X, G⟩ := T.ex; exact He.glo_ok X G (T.d.fact 54 (f := .glo "_law_rule") rfl)
theorem TX.g_law_rows_done (T : TX w K mg) : mg "_law_rows_done" = some (.ref (He.ga K "_law_rows_done")) := by obtain ⟨h, X, G⟩ := T.ex; exact He.glo_ok X G (T.d.fact 55 (f := .glo "_law_rows_done") rfl)
theorem TX.g_law_done (T : TX w K mg) : mg "_law_done" = some (.ref (He.ga K "_law_done")) := by obtain ⟨h, X, G⟩ := T.ex; exact He.glo_ok X G (T.d.fact 56 (f := .glo "_law_done") rfl)
theorem TX.g_law_with (T : TX w K mg) : mg "_law_with" = some (.ref (He.ga K "_law_with")) := by obtain ⟨h, X, G⟩ := T.ex; exact He.glo_ok X G (T.d.fact 57 (f := .glo "_law_with") rfl)
theorem TX.g_law_is_so (T : TX w K mg) : mg "_law_is_so" = some (.ref (He.ga K "_law_is_so")) := by obtain ⟨h, X, G⟩ := T.ex; exact He.glo_ok X G (T.d.fact 58 (f := .glo "_law_is_so") rfl)
theorem TX.g_law_shown (T : TX w K mg) : mg "_law_shown" = some (.ref (He.ga K "_law_shown")) := by obtain ⟨h, X, G⟩ := T.ex; exact He.glo_ok X G (T.d.fact 59 (f := .glo "_law_shown") rfl)
theorem TX.g_law_wish (T : TX w K mg) : mg "_law_wish" = some (.ref (He.ga K "_law_wish")) := by obtain ⟨h, X, G⟩ := T.ex; exact He.glo_ok X G (T.d.fact 60 (f := .glo "_law_wish") rfl)
theorem TX.g_law_class (T : TX w K mg) : mg "_law_class" = some (.ref (He.ga K "_law_class")) := by obtain ⟨h, X, G⟩ := T.ex; exact He.glo_ok X G (T.d.fact 61 (f := .glo "_law_class") rfl)
theorem TX.g_law_refused (T : TX w K mg) : mg "_law_refused" = some (.ref (He.ga K "_law_refused")) := by obtain ⟨h, X, G⟩ := T.ex; exact He.glo_ok X G (T.d.fact 62 (f := .glo "_law_refused") rfl)
theorem TX.g_law_cut (T : TX w K mg) : mg "_law_cut" = some (.ref (He.ga K "_law_cut")) := by obtain ⟨h, X, G⟩ := T.ex; exact He.glo_ok X G (T.d.fact 63 (f := .glo "_law_cut") rfl)
theorem TX.g_law_needed (T : TX w K mg) : mg "_law_needed" = some (.ref (He.ga K "_law_needed")) := by obtain ⟨h, X, G⟩ := T.ex; exact He.glo_ok X G (T.d.fact 64 (f := .glo "_law_needed") rfl)
theorem TX.g_law_other_mill (T : TX w K mg) : mg "_law_other_mill" = some (.ref (He.ga K "_law_other_mill")) := by obtain ⟨h, X, G⟩ := T.ex; exact He.glo_ok X G (T.d.fact 65 (f := .glo "_law_other_mill") rfl)
theorem TX.g_law_by (T : TX w K mg) : mg "_law_by" = some (.ref (He.ga K "_law_by")) := by obtain ⟨h, X, G⟩ := T.ex; exact He.glo_ok X G (T.d.fact 66 (f := .glo "_law_by") rfl)
theorem TX.g_law (T : TX w K mg) : mg "law" = some (.ref (He.ga K "law")) := by obtain ⟨h, X, G⟩ := T.ex; exact He.glo_ok X G (T.d.fact 67 (f := .glo "law") rfl)
theorem TX.g_Doing (T : TX w K mg) : mg "Doing" = some (.ref (He.ga K "Doing")) := by obtain ⟨h, X, G⟩ := T.ex; exact He.glo_ok X G (T.d.fact 68 (f := .glo "Doing") rfl)
theorem TX.c_Doing (T : TX w K mg) : Cls K (He.ga K "Doing") := He.cls_ok (T.d.fact 69 (f := .cls "Doing") rfl)
theorem TX.m_Doing (T : TX w K mg) : Mk K (He.ga K "Doing") (He.fAd K ("Doing", some "__init__")) := He.mkr_ok (T.d.fact 70 (f := .mkr "Doing") rfl)
theorem TX.g_Mill (T : TX w K mg) : mg "Mill" = some (.ref (He.ga K "Mill")) := by obtain ⟨h, X, G⟩ := T.ex; exact He.glo_ok X G (T.d.fact 71 (f := .glo "Mill") rfl)
theorem TX.c_Mill (T : TX w K mg) : Cls K (He.ga K "Mill") := He.cls_ok (T.d.fact 72 (f := .cls "Mill") rfl)
theorem TX.m_Mill (T : TX w K mg) : Mk K (He.ga K "Mill") (He.fAd K ("Mill", some "__init__")) := He.mkr_ok (T.d.fact 73 (f := .mkr "Mill") rfl)
theorem TX.n_mill (T : TX w K mg) : NoAttr K (He.ga K "Doing") "mill" := He.noat_ok (T.d.fact 74 (f := .noat "Doing" "mill") rfl)
theorem TX.n_time (T : TX w K mg) : NoAttr K (He.ga K "Doing") "time" := He.noat_ok (T.d.fact 75 (f := .noat "Doing" "time") rfl)
theorem TX.n_place (T : TX w K mg) : NoAttr K (He.ga K "Doing") "place" := He.noat_ok (T.d.fact 76 (f := .noat "Doing" "place") rfl)
theorem TX.n_load (T : TX w K mg) : NoAttr K (He.ga K "Doing") "load" := He.noat_ok (T.d.fact 77 (f := .noat "Doing" "load") rfl)
theorem TX.n_numbers (T : TX w K mg) : NoAttr K (He.ga K "Doing") "numbers" := He.noat_ok (T.d.fact 78 (f := .noat "Doing" "numbers") rfl)
theorem TX.n_draws (T : TX w K mg) : NoAttr K (He.ga K "Doing") "draws" := He.noat_ok (T.d.fact 79 (f := .noat "Doing" "draws") rfl)
theorem TX.n_posted (T : TX w K mg) : NoAttr K (He.ga K "Doing") "posted" := He.noat_ok (T.d.fact 80 (f := .noat "Doing" "posted") rfl)
theorem TX.n_out (T : TX w K mg) : NoAttr K (He.ga K "Doing") "out" := He.noat_ok (T.d.fact 81 (f := .noat "Doing" "out") rfl)
theorem TX.n_fixed (T : TX w K mg) : NoAttr K (He.ga K "Doing") "fixed" := He.noat_ok (T.d.fact 82 (f := .noat "Doing" "fixed") rfl)
theorem TX.n_manies (T : TX w K mg) : NoAttr K (He.ga K "Doing") "manies" := He.noat_ok (T.d.fact 83 (f := .noat "Doing" "manies") rfl)
theorem TX.n_told_so (T : TX w K mg) : NoAttr K (He.ga K "Mill") "told_so" := He.noat_ok (T.d.fact 84 (f := .noat "Mill" "told_so") rfl)
theorem TX.me_Doing_reads (T : TX w K mg) : Meth K (He.ga K "Doing") "reads" (He.fAd K ("Doing", some "reads")) := He.meth_ok (T.d.fact 85 (f := .meth "Doing" "reads") rfl)
theorem TX.me_Doing_drawn_number (T : TX w K mg) : Meth K (He.ga K "Doing") "drawn_number" (He.fAd K ("Doing", some "drawn_number")) := He.meth_ok (T.d.fact 86 (f := .meth "Doing" "drawn_number") rfl)
theorem TX.me_Doing_do_row (T : TX w K mg) : Meth K (He.ga K "Doing") "do_row" (He.fAd K ("Doing", some "do_row")) := He.meth_ok (T.d.fact 87 (f := .meth "Doing" "do_row") rfl)
theorem TX.me_Doing_do_rows (T : TX w K mg) : Meth K (He.ga K "Doing") "do_rows" (He.fAd K ("Doing", some "do_rows")) := He.meth_ok (T.d.fact 88 (f := .meth "Doing" "do_rows") rfl)
theorem TX.me_Mill_tree (T : TX w K mg) : Meth K (He.ga K "Mill") "tree" (He.fAd K ("Mill", some "tree")) := He.meth_ok (T.d.fact 89 (f := .meth "Mill" "tree") rfl)
theorem TX.me_Mill_places (T : TX w K mg) : Meth K (He.ga K "Mill") "places" (He.fAd K ("Mill", some "places")) := He.meth_ok (T.d.fact 90 (f := .meth "Mill" "places") rfl)
theorem TX.me_Mill_boxes (T : TX w K mg) : Meth K (He.ga K "Mill") "boxes" (He.fAd K ("Mill", some "boxes")) := He.meth_ok (T.d.fact 91 (f := .meth "Mill" "boxes") rfl)
theorem TX.me_Mill_rule (T : TX w K mg) : Meth K (He.ga K "Mill") "rule" (He.fAd K ("Mill", some "rule")) := He.meth_ok (T.d.fact 92 (f := .meth "Mill" "rule") rfl)
theorem TX.g_MillError (T : TX w K mg) : mg "MillError" = some (.ref (He.ga K "MillError")) := by obtain ⟨h, X, G⟩ := T.ex; exact He.glo_ok X G (T.d.fact 93 (f := .glo "MillError") rfl)
theorem TX.g_NoTree (T : TX w K mg) : mg "NoTree" = some (.ref (He.ga K "NoTree")) := by obtain ⟨h, X, G⟩ := T.ex; exact He.glo_ok X G (T.d.fact 94 (f := .glo "NoTree") rfl)
theorem TX.g_NoMill (T : TX w K mg) : mg "NoMill" = some (.ref (He.ga K "NoMill")) := by obtain ⟨h, X, G⟩ := T.ex; exact He.glo_ok X G (T.d.fact 95 (f := .glo "NoMill") rfl)
theorem TX.g_NoText (T : TX w K mg) : mg "NoText" = some (.ref (He.ga K "NoText")) := by obtain ⟨h, X, G⟩ := T.ex; exact He.glo_ok X G (T.d.fact 96 (f := .glo "NoText") rfl)
theorem TX.g_NoLetter (T : TX w K mg) : mg "NoLetter" = some (.ref (He.ga K "NoLetter")) := by obtain ⟨h, X, G⟩ := T.ex; exact He.glo_ok X G (T.d.fact 97 (f := .glo "NoLetter") rfl)
theorem TX.g_NoOrder (T : TX w K mg) : mg "NoOrder" = some (.ref (He.ga K "NoOrder")) := by obtain ⟨h, X, G⟩ := T.ex; exact He.glo_ok X G (T.d.fact 98 (f := .glo "NoOrder") rfl)
theorem TX.g_NoMoment (T : TX w K mg) : mg "NoMoment" = some (.ref (He.ga K "NoMoment")) := by obtain ⟨h, X, G⟩ := T.ex; exact He.glo_ok X G (T.d.fact 99 (f := .glo "NoMoment") rfl)
theorem TX.g_NoHand (T : TX w K mg) : mg "NoHand" = some (.ref (He.ga K "NoHand")) := by obtain ⟨h, X, G⟩ := T.ex; exact He.glo_ok X G (T.d.fact 100 (f := .glo "NoHand") rfl)
theorem TX.g_NotNow (T : TX w K mg) : mg "NotNow" = some (.ref (He.ga K "NotNow")) := by obtain ⟨h, X, G⟩ := T.ex; exact He.glo_ok X G (T.d.fact 101 (f := .glo "NotNow") rfl)
theorem TX.g_NoRound (T : TX w K mg) : mg "NoRound" = some (.ref (He.ga K "NoRound")) := by obtain ⟨h, X, G⟩ := T.ex; exact He.glo_ok X G (T.d.fact 102 (f := .glo "NoRound") rfl)
theorem TX.g_NoPlace (T : TX w K mg) : mg "NoPlace" = some (.ref (He.ga K "NoPlace")) := by obtain ⟨h, X, G⟩ := T.ex; exact He.glo_ok X G (T.d.fact 103 (f := .glo "NoPlace") rfl)
theorem TX.g_NoRow (T : TX w K mg) : mg "NoRow" = some (.ref (He.ga K "NoRow")) := by obtain ⟨h, X, G⟩ := T.ex; exact He.glo_ok X G (T.d.fact 104 (f := .glo "NoRow") rfl)
theorem TX.g_TooMany (T : TX w K mg) : mg "TooMany" = some (.ref (He.ga K "TooMany")) := by obtain ⟨h, X, G⟩ := T.ex; exact He.glo_ok X G (T.d.fact 105 (f := .glo "TooMany") rfl)
theorem TX.x_NoRow (T : TX w K mg) : PySem.W.excIn K (He.ga K "NoRow") He.veBase "ValueError.__new__" = true ∧ PySem.W.keepIn K (.ref (He.ga K "NoRow")) = true ∧ PySem.W.subIn K (.ref (He.ga K "NoRow")) (.type "BaseException") = some true ∧ PySem.W.typeIn K (.ref (He.ga K "NoRow")) = some (.type "type") := He.exc_ok (T.d.fact 106 (f := .exc "NoRow") rfl)
theorem TX.xm_MillError (T : TX w K mg) : PySem.W.exmOne K (.ref (He.ga K "NoRow")) (.ref (He.ga K "MillError")) = some true := He.exm_ok (T.d.fact 107 (f := .exm "NoRow" "MillError" true) rfl)
theorem TX.k_LETTERS (T : TX w K mg) : ∃ t, mg "LETTERS" = some (.str "abcdefghijklmnopqrstuvwxyz" t) := by obtain ⟨h, X, G⟩ := T.ex; exact He.str_ok X G (T.d.fact 108 (f := .str "LETTERS" "abcdefghijklmnopqrstuvwxyz") rfl)
theorem TX.k_LONGEST (T : TX w K mg) : ∃ t, mg "LONGEST" = some (.int 6 t) := by obtain ⟨h, X, G⟩ := T.ex; exact He.int_ok X G (T.d.fact 109 (f := .int "LONGEST" 6) rfl)
theorem TX.k_ROUND (T : TX w K mg) : ∃ t, mg "ROUND" = some (.int 100 t) := by obtain ⟨h, X, G⟩ := T.ex; exact He.int_ok X G (T.d.fact 110 (f := .int "ROUND" 100) rfl)
theorem TX.k_MOST_PARTS (T : TX w K mg) : ∃ t, mg "MOST_PARTS" = some (.int 30 t) := by obtain ⟨h, X, G⟩ := T.ex; exact He.int_ok X G (T.d.fact 111 (f := .int "MOST_PARTS" 30) rfl)
theorem TX.k_MOST_DEEP (T : TX w K mg) : ∃ t, mg "MOST_DEEP" = some (.int 6 t) := by obtain ⟨h, X, G⟩ := T.ex; exact He.int_ok X G (T.d.fact 112 (f := .int "MOST_DEEP" 6) rfl)
theorem TX.g_KEPT (T : TX w K mg) : mg "KEPT" = some (.ref (He.ga K "KEPT")) := by obtain ⟨h, X, G⟩ := T.ex; exact He.glo_ok X G (T.d.fact 113 (f := .glo "KEPT") rfl)
theorem TX.g_SIGNS (T : TX w K mg) : mg "SIGNS" = some (.ref (He.ga K "SIGNS")) := by obtain ⟨h, X, G⟩ := T.ex; exact He.glo_ok X G (T.d.fact 114 (f := .glo "SIGNS") rfl)
theorem TX.k_MOST_GIVEN (T : TX w K mg) : ∃ t, mg "MOST_GIVEN" = some (.int 40 t) := by obtain ⟨h, X, G⟩ := T.ex; exact He.int_ok X G (T.d.fact 115 (f := .int "MOST_GIVEN" 40) rfl)
theorem TX.k_MOST_TIME (T : TX w K mg) : ∃ t, mg "MOST_TIME" = some (.int 1000000000 t) := by obtain ⟨h, X, G⟩ := T.ex; exact He.int_ok X G (T.d.fact 116 (f := .int "MOST_TIME" 1000000000) rfl)
theorem TX.k_MOST_NUMBER (T : TX w K mg) : ∃ t, mg "MOST_NUMBER" = some (.int 99 t) := by obtain ⟨h, X, G⟩ := T.ex; exact He.int_ok X G (T.d.fact 117 (f := .int "MOST_NUMBER" 99) rfl)
theorem TX.k_MOST_DONE (T : TX w K mg) : ∃ t, mg "MOST_DONE" = some (.int 400 t) := by obtain ⟨h, X, G⟩ := T.ex; exact He.int_ok X G (T.d.fact 118 (f := .int "MOST_DONE" 400) rfl)
theorem TX.k_MOST_ROWS (T : TX w K mg) : ∃ t, mg "MOST_ROWS" = some (.int 12 t) := by obtain ⟨h, X, G⟩ := T.ex; exact He.int_ok X G (T.d.fact 119 (f := .int "MOST_ROWS" 12) rfl)
theorem TX.k_MOST_WITHIN (T : TX w K mg) : ∃ t, mg "MOST_WITHIN" = some (.int 3 t) := by obtain ⟨h, X, G⟩ := T.ex; exact He.int_ok X G (T.d.fact 120 (f := .int "MOST_WITHIN" 3) rfl)
theorem TX.k_LEAST_MANY (T : TX w K mg) : ∃ t, mg "LEAST_MANY" = some (.int 2 t) := by obtain ⟨h, X, G⟩ := T.ex; exact He.int_ok X G (T.d.fact 121 (f := .int "LEAST_MANY" 2) rfl)
theorem TX.k_MOST_MANY (T : TX w K mg) : ∃ t, mg "MOST_MANY" = some (.int 4 t) := by obtain ⟨h, X, G⟩ := T.ex; exact He.int_ok X G (T.d.fact 122 (f := .int "MOST_MANY" 4) rfl)
theorem TX.k_MOST_SPAN (T : TX w K mg) : ∃ t, mg "MOST_SPAN" = some (.int 20 t) := by obtain ⟨h, X, G⟩ := T.ex; exact He.int_ok X G (T.d.fact 123 (f := .int "MOST_SPAN" 20) rfl)
theorem TX.k_MOST_PLACES (T : TX w K mg) : ∃ t, mg "MOST_PLACES" = some (.int 6 t) := by obtain ⟨h, X, G⟩ := T.ex; exact He.int_ok X G (T.d.fact 124 (f := .int "MOST_PLACES" 6) rfl)
theorem TX.k_MOST_BOXES (T : TX w K mg) : ∃ t, mg "MOST_BOXES" = some (.int 4 t) := by obtain ⟨h, X, G⟩ := T.ex; exact He.int_ok X G (T.d.fact 125 (f := .int "MOST_BOXES" 4) rfl)
theorem TX.k_MOST_RULES (T : TX w K mg) : ∃ t, mg "MOST_RULES" = some (.int 4 t) := by obtain ⟨h, X, G⟩ := T.ex; exact He.int_ok X G (T.d.fact 126 (f := .int "MOST_RULES" 4) rfl)
theorem TX.b_isinstance (T : TX w K mg) : mg "isinstance" = none := by obtain ⟨h, X, G⟩ := T.ex; exact He.free_ok X G (T.d.fact 127 (f := .free "isinstance") rfl)
theorem TX.b_len (T : TX w K mg) : mg "len" = none := by obtain ⟨h, X, G⟩ := T.ex; exact He.free_ok X G (T.d.fact 128 (f := .free "len") rfl)
theorem TX.b_int (T : TX w K mg) : mg "int" = none := by obtain ⟨h, X, G⟩ := T.ex; exact He.free_ok X G (T.d.fact 129 (f := .free "int") rfl)
theorem TX.b_str (T : TX w K mg) : mg "str" = none := by obtain ⟨h, X, G⟩ := T.ex; exact He.free_ok X G (T.d.fact 130 (f := .free "str") rfl)
theorem TX.b_bool (T : TX w K mg) : mg "bool" = none := by obtain ⟨h, X, G⟩ := T.ex; exact He.free_ok X G (T.d.fact 131 (f := .free "bool") rfl)
theorem TX.b_tuple (T : TX w K mg) : mg "tuple" = none := by obtain ⟨h, X, G⟩ := T.ex; exact He.free_ok X G (T.d.fact 132 (f := .free "tuple") rfl)
theorem TX.b_list (T : TX w K mg) : mg "list" = none := by obtain ⟨h, X, G⟩ := T.ex; exact He.free_ok X G (T.d.fact 133 (f := .free "list") rfl)
theorem TX.b_sum (T : TX w K mg) : mg "sum" = none := by obtain ⟨h, X, G⟩ := T.ex; exact He.free_ok X G (T.d.fact 134 (f := .free "sum") rfl)
theorem TX.b_all (T : TX w K mg) : mg "all" = none := by obtain ⟨h, X, G⟩ := T.ex; exact He.free_ok X G (T.d.fact 135 (f := .free "all") rfl)
theorem TX.b_any (T : TX w K mg) : mg "any" = none := by obtain ⟨h, X, G⟩ := T.ex; exact He.free_ok X G (T.d.fact 136 (f := .free "any") rfl)
theorem TX.b_sorted (T : TX w K mg) : mg "sorted" = none := by obtain ⟨h, X, G⟩ := T.ex; exact He.free_ok X G (T.d.fact 137 (f := .free "sorted") rfl)
theorem TX.b_range (T : TX w K mg) : mg "range" = none := by obtain ⟨h, X, G⟩ := T.ex; exact He.free_ok X G (T.d.fact 138 (f := .free "range") rfl)
theorem TX.b_set (T : TX w K mg) : mg "set" = none := by obtain ⟨h, X, G⟩ := T.ex; exact He.free_ok X G (T.d.fact 139 (f := .free "set") rfl)
theorem TX.b_zip (T : TX w K mg) : mg "zip" = none := by obtain ⟨h, X, G⟩ := T.ex; exact He.free_ok X G (T.d.fact 140 (f := .free "zip") rfl)
theorem TX.b_dict (T : TX w K mg) : mg "dict" = none := by obtain ⟨h, X, G⟩ := T.ex; exact He.free_ok X G (T.d.fact 141 (f := .free "dict") rfl)
theorem TX.b_enumerate (T : TX w K mg) : mg "enumerate" = none := by obtain ⟨h, X, G⟩ := T.ex; exact He.free_ok X G (T.d.fact 142 (f := .free "enumerate") rfl)
theorem TX.b_min (T : TX w K mg) : mg "min" = none := by obtain ⟨h, X, G⟩ := T.ex; exact He.free_ok X G (T.d.fact 143 (f := .free "min") rfl)
theorem TX.b_abs (T : TX w K mg) : mg "abs" = none := by obtain ⟨h, X, G⟩ := T.ex; exact He.free_ok X G (T.d.fact 144 (f := .free "abs") rfl)
theorem TX.b_ValueError (T : TX w K mg) : mg "ValueError" = none := by obtain ⟨h, X, G⟩ := T.ex; exact He.free_ok X G (T.d.fact 145 (f := .free "ValueError") rfl)
theorem TX.d_is_name (T : TX w K mg) : ∃ fd, FunD K "is_name" "is_name" (defArgs s_is_name) (defBody s_is_name) (defScope s_is_name) [] [] (He.fAd K ("is_name", none)) fd := T.d.def_ 0 (d := d22) rfl
theorem TX.d_is_number (T : TX w K mg) : ∃ fd, FunD K "is_number" "is_number" (defArgs s_is_number) (defBody s_is_number) (defScope s_is_number) [] [] (He.fAd K ("is_number", none)) fd := T.d.def_ 1 (d := d23) rfl
theorem TX.d_trees_in (T : TX w K mg) : ∃ fd, FunD K "trees_in" "trees_in" (defArgs s_trees_in) (defBody s_trees_in) (defScope s_trees_in) [] [] (He.fAd K ("trees_in", none)) fd := T.d.def_ 2 (d := d24) rfl
theorem TX.d_parts_of (T : TX w K mg) : ∃ fd, FunD K "parts_of" "parts_of" (defArgs s_parts_of) (defBody s_parts_of) (defScope s_parts_of) [] [] (He.fAd K ("parts_of", none)) fd := T.d.def_ 3 (d := d25) rfl
theorem TX.d_is_tree (T : TX w K mg) : ∃ fd, FunD K "is_tree" "is_tree" (defArgs s_is_tree) (defBody s_is_tree) (defScope s_is_tree) [] [] (He.fAd K ("is_tree", none)) fd := T.d.def_ 4 (d := d26) rfl
theorem TX.d_gather (T : TX w K mg) : ∃ fd, FunD K "gather" "gather" (defArgs s_gather) (defBody s_gather) (defScope s_gather) [] [] (He.fAd K ("gather", none)) fd := T.d.def_ 5 (d := d27) rfl
theorem TX.d_names_in (T : TX w K mg) : ∃ fd, FunD K "names_in" "names_in" (defArgs s_names_in) (defBody s_names_in) (defScope s_names_in) [] [] (He.fAd K ("names_in", none)) fd := T.d.def_ 6 (d := d28) rfl
theorem TX.d_reckoned (T : TX w K mg) : ∃ fd, FunD K "reckoned" "reckoned" (defArgs s_reckoned) (defBody s_reckoned) (defScope s_reckoned) [] [] (He.fAd K ("reckoned", none)) fd := T.d.def_ 7 (d := d29) rfl
theorem TX.d_value (T : TX w K mg) : ∃ fd, FunD K "value" "value" (defArgs s_value) (defBody s_value) (defScope s_value) [] [] (He.fAd K ("value", none)) fd := T.d.def_ 8 (d := d30) rfl
theorem TX.d_is_whole_plain (T : TX w K mg) : ∃ fd, FunD K "is_whole" "is_whole" (defArgs s_is_whole_plain) (defBody s_is_whole_plain) (defScope s_is_whole_plain) [] [] (He.fAd K ("is_whole_plain", none)) fd := T.d.def_ 9 (d := d36) rfl
theorem TX.d_is_given (T : TX w K mg) : ∃ fd, FunD K "is_given" "is_given" (defArgs s_is_given) (defBody s_is_given) (defScope s_is_given) [] [] (He.fAd K ("is_given", none)) fd := T.d.def_ 10 (d := d38) rfl
theorem TX.d_need_given (T : TX w K mg) : ∃ fd, FunD K "need_given" "need_given" (defArgs s_need_given) (defBody s_need_given) (defScope s_need_given) [] [] (He.fAd K ("need_given", none)) fd := T.d.def_ 11 (d := d39) rfl
theorem TX.d_letter_of (T : TX w K mg) : ∃ fd, FunD K "letter_of" "letter_of" (defArgs s_letter_of) (defBody s_letter_of) (defScope s_letter_of) [] [] (He.fAd K ("letter_of", none)) fd := T.d.def_ 12 (d := d40) rfl
theorem TX.d_first_boxes (T : TX w K mg) : ∃ fd, FunD K "first_boxes" "first_boxes" (defArgs s_first_boxes) (defBody s_first_boxes) (defScope s_first_boxes) [] [] (He.fAd K ("first_boxes", none)) fd := T.d.def_ 13 (d := d41) rfl
theorem TX.d_state_with (T : TX w K mg) : ∃ fd, FunD K "state_with" "state_with" (defArgs s_state_with) (defBody s_state_with) (defScope s_state_with) [] [] (He.fAd K ("state_with", none)) fd := T.d.def_ 14 (d := d42) rfl
theorem TX.d_draw_at (T : TX w K mg) : ∃ fd, FunD K "draw_at" "draw_at" (defArgs s_draw_at) (defBody s_draw_at) (defScope s_draw_at) [] [] (He.fAd K ("draw_at", none)) fd := T.d.def_ 15 (d := d43) rfl
theorem TX.d_put_at (T : TX w K mg) : ∃ fd, FunD K "put_at" "put_at" (defArgs s_put_at) (defBody s_put_at) (defScope s_put_at) [] [] (He.fAd K ("put_at", none)) fd := T.d.def_ 16 (d := d45) rfl
theorem TX.d_doing_of (T : TX w K mg) : ∃ fd, FunD K "doing_of" "doing_of" (defArgs s_doing_of) (defBody s_doing_of) (defScope s_doing_of) [.non] [] (He.fAd K ("doing_of", none)) fd := T.d.def_ 17 (d := d46) rfl
theorem TX.d_behind_doing (T : TX w K mg) : ∃ fd, FunD K "behind_doing" "behind_doing" (defArgs s_behind_doing) (defBody s_behind_doing) (defScope s_behind_doing) [] [] (He.fAd K ("behind_doing", none)) fd := T.d.def_ 18 (d := d47) rfl
theorem TX.d_behind (T : TX w K mg) : ∃ fd, FunD K "behind" "behind" (defArgs s_behind) (defBody s_behind) (defScope s_behind) [] [] (He.fAd K ("behind", none)) fd := T.d.def_ 19 (d := d48) rfl
theorem TX.d_number_of (T : TX w K mg) : ∃ fd, FunD K "number_of" "number_of" (defArgs s_number_of) (defBody s_number_of) (defScope s_number_of) [] [] (He.fAd K ("number_of", none)) fd := T.d.def_ 20 (d := d50) rfl
theorem TX.d_names_of (T : TX w K mg) : ∃ fd, FunD K "names_of" "names_of" (defArgs s_names_of) (defBody s_names_of) (defScope s_names_of) [] [] (He.fAd K ("names_of", none)) fd := T.d.def_ 21 (d := d51) rfl
theorem TX.d_need_wish (T : TX w K mg) : ∃ fd, FunD K "need_wish" "need_wish" (defArgs s_need_wish) (defBody s_need_wish) (defScope s_need_wish) [] [] (He.fAd K ("need_wish", none)) fd := T.d.def_ 22 (d := d52) rfl
theorem TX.d_is_so (T : TX w K mg) : ∃ fd, FunD K "is_so" "is_so" (defArgs s_is_so) (defBody s_is_so) (defScope s_is_so) [] [] (He.fAd K ("is_so", none)) fd := T.d.def_ 23 (d := d53) rfl
theorem TX.d_shows_with (T : TX w K mg) : ∃ fd, FunD K "shows_with" "shows_with" (defArgs s_shows_with) (defBody s_shows_with) (defScope s_shows_with) [] [] (He.fAd K ("shows_with", none)) fd := T.d.def_ 24 (d := d55) rfl
theorem TX.d_need_asked (T : TX w K mg) : ∃ fd, FunD K "need_asked" "need_asked" (defArgs s_need_asked) (defBody s_need_asked) (defScope s_need_asked) [] [] (He.fAd K ("need_asked", none)) fd := T.d.def_ 25 (d := d56) rfl
theorem TX.d_shows_left (T : TX w K mg) : ∃ fd, FunD K "shows_left" "shows_left" (defArgs s_shows_left) (defBody s_shows_left) (defScope s_shows_left) [] [] (He.fAd K ("shows_left", none)) fd := T.d.def_ 26 (d := d57) rfl
theorem TX.d_shows (T : TX w K mg) : ∃ fd, FunD K "shows" "shows" (defArgs s_shows) (defBody s_shows) (defScope s_shows) [] [] (He.fAd K ("shows", none)) fd := T.d.def_ 27 (d := d58) rfl
theorem TX.d_without (T : TX w K mg) : ∃ fd, FunD K "without" "without" (defArgs s_without) (defBody s_without) (defScope s_without) [] [] (He.fAd K ("without", none)) fd := T.d.def_ 28 (d := d59) rfl
theorem TX.d_cut_down (T : TX w K mg) : ∃ fd, FunD K "cut_down" "cut_down" (defArgs s_cut_down) (defBody s_cut_down) (defScope s_cut_down) [] [] (He.fAd K ("cut_down", none)) fd := T.d.def_ 29 (d := d60) rfl
theorem TX.d_are_numbers (T : TX w K mg) : ∃ fd, FunD K "are_numbers" "are_numbers" (defArgs s_are_numbers) (defBody s_are_numbers) (defScope s_are_numbers) [] [] (He.fAd K ("are_numbers", none)) fd := T.d.def_ 30 (d := d61) rfl
theorem TX.d_cut_good (T : TX w K mg) : ∃ fd, FunD K "cut_good" "cut_good" (defArgs s_cut_good) (defBody s_cut_good) (defScope s_cut_good) [] [] (He.fAd K ("cut_good", none)) fd := T.d.def_ 31 (d := d62) rfl
theorem TX.d_is_whole_rows (T : TX w K mg) : ∃ fd, FunD K "is_whole" "is_whole" (defArgs s_is_whole_rows) (defBody s_is_whole_rows) (defScope s_is_whole_rows) [] [] (He.fAd K ("is_whole_rows", none)) fd := T.d.def_ 32 (d := d69) rfl
theorem TX.d_is_tree_of (T : TX w K mg) : ∃ fd, FunD K "is_tree_of" "is_tree_of" (defArgs s_is_tree_of) (defBody s_is_tree_of) (defScope s_is_tree_of) [] [] (He.fAd K ("is_tree_of", none)) fd := T.d.def_ 33 (d := d71) rfl
theorem TX.d_is_box_of (T : TX w K mg) : ∃ fd, FunD K "is_box_of" "is_box_of" (defArgs s_is_box_of) (defBody s_is_box_of) (defScope s_is_box_of) [] [] (He.fAd K ("is_box_of", none)) fd := T.d.def_ 34 (d := d72) rfl
theorem TX.d_is_plain_row (T : TX w K mg) : ∃ fd, FunD K "is_plain_row" "is_plain_row" (defArgs s_is_plain_row) (defBody s_is_plain_row) (defScope s_is_plain_row) [] [] (He.fAd K ("is_plain_row", none)) fd := T.d.def_ 35 (d := d73) rfl
theorem TX.d_many_in (T : TX w K mg) : ∃ fd, FunD K "many_in" "many_in" (defArgs s_many_in) (defBody s_many_in) (defScope s_many_in) [] [] (He.fAd K ("many_in", none)) fd := T.d.def_ 36 (d := d74) rfl
theorem TX.d_many_by (T : TX w K mg) : ∃ fd, FunD K "many_by" "many_by" (defArgs s_many_by) (defBody s_many_by) (defScope s_many_by) [] [] (He.fAd K ("many_by", none)) fd := T.d.def_ 37 (d := d75) rfl
theorem TX.d_are_rows (T : TX w K mg) : ∃ fd, FunD K "are_rows" "are_rows" (defArgs s_are_rows) (defBody s_are_rows) (defScope s_are_rows) [] [] (He.fAd K ("are_rows", none)) fd := T.d.def_ 38 (d := d76) rfl
theorem TX.d_is_pair (T : TX w K mg) : ∃ fd, FunD K "is_pair" "is_pair" (defArgs s_is_pair) (defBody s_is_pair) (defScope s_is_pair) [] [] (He.fAd K ("is_pair", none)) fd := T.d.def_ 39 (d := d81) rfl
theorem TX.d_are_unlike (T : TX w K mg) : ∃ fd, FunD K "are_unlike" "are_unlike" (defArgs s_are_unlike) (defBody s_are_unlike) (defScope s_are_unlike) [] [] (He.fAd K ("are_unlike", none)) fd := T.d.def_ 40 (d := d82) rfl
theorem TX.d_are_boxes (T : TX w K mg) : ∃ fd, FunD K "are_boxes" "are_boxes" (defArgs s_are_boxes) (defBody s_are_boxes) (defScope s_are_boxes) [] [] (He.fAd K ("are_boxes", none)) fd := T.d.def_ 41 (d := d83) rfl
theorem TX.d_are_rules (T : TX w K mg) : ∃ fd, FunD K "are_rules" "are_rules" (defArgs s_are_rules) (defBody s_are_rules) (defScope s_are_rules) [] [] (He.fAd K ("are_rules", none)) fd := T.d.def_ 42 (d := d84) rfl
theorem TX.d_is_place (T : TX w K mg) : ∃ fd, FunD K "is_place" "is_place" (defArgs s_is_place) (defBody s_is_place) (defScope s_is_place) [] [] (He.fAd K ("is_place", none)) fd := T.d.def_ 43 (d := d85) rfl
theorem TX.d_is_mill (T : TX w K mg) : ∃ fd, FunD K "is_mill" "is_mill" (defArgs s_is_mill) (defBody s_is_mill) (defScope s_is_mill) [] [] (He.fAd K ("is_mill", none)) fd := T.d.def_ 44 (d := d86) rfl
theorem TX.d_law_mixed (T : TX w K mg) : ∃ fd, FunD K "_law_mixed" "_law_mixed" (defArgs s_law_mixed) (defBody s_law_mixed) (defScope s_law_mixed) [] [] (He.fAd K ("_law_mixed", none)) fd := T.d.def_ 45 (d := d89) rfl
theorem TX.d_law_digits (T : TX w K mg) : ∃ fd, FunD K "_law_digits" "_law_digits" (defArgs s_law_digits) (defBody s_law_digits) (defScope s_law_digits) [] [] (He.fAd K ("_law_digits", none)) fd := T.d.def_ 46 (d := d90) rfl
theorem TX.d_law_next (T : TX w K mg) : ∃ fd, FunD K "_law_next" "_law_next" (defArgs s_law_next) (defBody s_law_next) (defScope s_law_next) [] [] (He.fAd K ("_law_next", none)) fd := T.d.def_ 47 (d := d91) rfl
theorem TX.d_law_tree (T : TX w K mg) : ∃ fd, FunD K "_law_tree" "_law_tree" (defArgs s_law_tree) (defBody s_law_tree) (defScope s_law_tree) [] [] (He.fAd K ("_law_tree", none)) fd := T.d.def_ 48 (d := d92) rfl
theorem TX.d_law_row (T : TX w K mg) : ∃ fd, FunD K "_law_row" "_law_row" (defArgs s_law_row) (defBody s_law_row) (defScope s_law_row) [] [] (He.fAd K ("_law_row", none)) fd := T.d.def_ 49 (d := d93) rfl
theorem TX.d_law_mill_tree (T : TX w K mg) : ∃ fd, FunD K "_law_mill_tree" "_law_mill_tree" (defArgs s_law_mill_tree) (defBody s_law_mill_tree) (defScope s_law_mill_tree) [] [] (He.fAd K ("_law_mill_tree", none)) fd := T.d.def_ 50 (d := d94) rfl
theorem TX.d_law_given (T : TX w K mg) : ∃ fd, FunD K "_law_given" "_law_given" (defArgs s_law_given) (defBody s_law_given) (defScope s_law_given) [] [] (He.fAd K ("_law_given", none)) fd := T.d.def_ 51 (d := d95) rfl
theorem TX.d_law_value (T : TX w K mg) : ∃ fd, FunD K "_law_value" "_law_value" (defArgs s_law_value) (defBody s_law_value) (defScope s_law_value) [] [] (He.fAd K ("_law_value", none)) fd := T.d.def_ 52 (d := d96) rfl
theorem TX.d_law_first (T : TX w K mg) : ∃ fd, FunD K "_law_first" "_law_first" (defArgs s_law_first) (defBody s_law_first) (defScope s_law_first) [] [] (He.fAd K ("_law_first", none)) fd := T.d.def_ 53 (d := d97) rfl
theorem TX.d_law_rule (T : TX w K mg) : ∃ fd, FunD K "_law_rule" "_law_rule" (defArgs s_law_rule) (defBody s_law_rule) (defScope s_law_rule) [] [] (He.fAd K ("_law_rule", none)) fd := T.d.def_ 54 (d := d98) rfl
theorem TX.d_law_rows_done (T : TX w K mg) : ∃ fd, FunD K "_law_rows_done" "_law_rows_done" (defArgs s_law_rows_done) (defBody s_law_rows_done) (defScope s_law_rows_done) [] [] (He.fAd K ("_law_rows_done", none)) fd := T.d.def_ 55 (d := d99) rfl
theorem TX.d_law_done (T : TX w K mg) : ∃ fd, FunD K "_law_done" "_law_done" (defArgs s_law_done) (defBody s_law_done) (defScope s_law_done) [] [] (He.fAd K ("_law_done", none)) fd := T.d.def_ 56 (d := d100) rfl
theorem TX.d_law_with (T : TX w K mg) : ∃ fd, FunD K "_law_with" "_law_with" (defArgs s_law_with) (defBody s_law_with) (defScope s_law_with) [] [] (He.fAd K ("_law_with", none)) fd := T.d.def_ 57 (d := d101) rfl
theorem TX.d_law_is_so (T : TX w K mg) : ∃ fd, FunD K "_law_is_so" "_law_is_so" (defArgs s_law_is_so) (defBody s_law_is_so) (defScope s_law_is_so) [] [] (He.fAd K ("_law_is_so", none)) fd := T.d.def_ 58 (d := d102) rfl
theorem TX.d_law_shown (T : TX w K mg) : ∃ fd, FunD K "_law_shown" "_law_shown" (defArgs s_law_shown) (defBody s_law_shown) (defScope s_law_shown) [] [] (He.fAd K ("_law_shown", none)) fd := T.d.def_ 59 (d := d103) rfl
theorem TX.d_law_wish (T : TX w K mg) : ∃ fd, FunD K "_law_wish" "_law_wish" (defArgs s_law_wish) (defBody s_law_wish) (defScope s_law_wish) [] [] (He.fAd K ("_law_wish", none)) fd := T.d.def_ 60 (d := d104) rfl
theorem TX.d_law_class (T : TX w K mg) : ∃ fd, FunD K "_law_class" "_law_class" (defArgs s_law_class) (defBody s_law_class) (defScope s_law_class) [] [] (He.fAd K ("_law_class", none)) fd := T.d.def_ 61 (d := d105) rfl
theorem TX.d_law_refused (T : TX w K mg) : ∃ fd, FunD K "_law_refused" "_law_refused" (defArgs s_law_refused) (defBody s_law_refused) (defScope s_law_refused) [] [] (He.fAd K ("_law_refused", none)) fd := T.d.def_ 62 (d := d106) rfl
theorem TX.d_law_cut (T : TX w K mg) : ∃ fd, FunD K "_law_cut" "_law_cut" (defArgs s_law_cut) (defBody s_law_cut) (defScope s_law_cut) [] [] (He.fAd K ("_law_cut", none)) fd := T.d.def_ 63 (d := d107) rfl
theorem TX.d_law_needed (T : TX w K mg) : ∃ fd, FunD K "_law_needed" "_law_needed" (defArgs s_law_needed) (defBody s_law_needed) (defScope s_law_needed) [] [] (He.fAd K ("_law_needed", none)) fd := T.d.def_ 64 (d := d108) rfl
theorem TX.d_law_other_mill (T : TX w K mg) : ∃ fd, FunD K "_law_other_mill" "_law_other_mill" (defArgs s_law_other_mill) (defBody s_law_other_mill) (defScope s_law_other_mill) [] [] (He.fAd K ("_law_other_mill", none)) fd := T.d.def_ 65 (d := d109) rfl
theorem TX.d_law_by (T : TX w K mg) : ∃ fd, FunD K "_law_by" "_law_by" (defArgs s_law_by) (defBody s_law_by) (defScope s_law_by) [] [] (He.fAd K ("_law_by", none)) fd := T.d.def_ 66 (d := d110) rfl
theorem TX.d_law (T : TX w K mg) : ∃ fd, FunD K "law" "law" (defArgs s_law) (defBody s_law) (defScope s_law) [] [] (He.fAd K ("law", none)) fd := T.d.def_ 67 (d := d111) rfl
theorem TX.d_Doing_init (T : TX w K mg) : ∃ fd, FunD K "__init__" "Doing.__init__" (defArgs s_Doing_init) (defBody s_Doing_init) (defScope s_Doing_init) [] [] (He.fAd K ("Doing", some "__init__")) fd := T.d.def_ 68 (d := d44_0) rfl
theorem TX.d_Doing_reads (T : TX w K mg) : ∃ fd, FunD K "reads" "Doing.reads" (defArgs s_Doing_reads) (defBody s_Doing_reads) (defScope s_Doing_reads) [] [] (He.fAd K ("Doing", some "reads")) fd := T.d.def_ 69 (d := d44_1) rfl
theorem TX.d_Doing_drawn_number (T : TX w K mg) : ∃ fd, FunD K "drawn_number" "Doing.drawn_number" (defArgs s_Doing_drawn_number) (defBody s_Doing_drawn_number) (defScope s_Doing_drawn_number) [] [] (He.fAd K ("Doing", some "drawn_number")) fd := T.d.def_ 70 (d := d44_2) rfl
theorem TX.d_Doing_do_row (T : TX w K mg) : ∃ fd, FunD K "do_row" "Doing.do_row" (defArgs s_Doing_do_row) (defBody s_Doing_do_row) (defScope s_Doing_do_row) [] [] (He.fAd K ("Doing", some "do_row")) fd := T.d.def_ 71 (d := d44_3) rfl
theorem TX.d_Doing_do_rows (T : TX w K mg) : ∃ fd, FunD K "do_rows" "Doing.do_rows" (defArgs s_Doing_do_rows) (defBody s_Doing_do_rows) (defScope s_Doing_do_rows) [] [] (He.fAd K ("Doing", some "do_rows")) fd := T.d.def_ 72 (d := d44_4) rfl
theorem TX.d_Mill_init (T : TX w K mg) : ∃ fd, FunD K "__init__" "Mill.__init__" (defArgs s_Mill_init) (defBody s_Mill_init) (defScope s_Mill_init) [] [] (He.fAd K ("Mill", some "__init__")) fd := T.d.def_ 73 (d := d87_0) rfl
theorem TX.d_Mill_tree (T : TX w K mg) : ∃ fd, FunD K "tree" "Mill.tree" (defArgs s_Mill_tree) (defBody s_Mill_tree) (defScope s_Mill_tree) [] [] (He.fAd K ("Mill", some "tree")) fd := T.d.def_ 74 (d := d87_1) rfl
theorem TX.d_Mill_places (T : TX w K mg) : ∃ fd, FunD K "places" "Mill.places" (defArgs s_Mill_places) (defBody s_Mill_places) (defScope s_Mill_places) [] [] (He.fAd K ("Mill", some "places")) fd := T.d.def_ 75 (d := d87_2) rfl
theorem TX.d_Mill_boxes (T : TX w K mg) : ∃ fd, FunD K "boxes" "Mill.boxes" (defArgs s_Mill_boxes) (defBody s_Mill_boxes) (defScope s_Mill_boxes) [] [] (He.fAd K ("Mill", some "boxes")) fd := T.d.def_ 76 (d := d87_3) rfl
theorem TX.d_Mill_rule (T : TX w K mg) : ∃ fd, FunD K "rule" "Mill.rule" (defArgs s_Mill_rule) (defBody s_Mill_rule) (defScope s_Mill_rule) [] [] (He.fAd K ("Mill", some "rule")) fd := T.d.def_ 77 (d := d87_4) rfl
theorem TX.kept (T : TX w K mg) (H : Hp) : SqT K H (He.ga K "KEPT") [.str "load", .str "now"] := He.tupB_ok (vs := [.str "load", .str "now"]) (He.ba T.more).1 H
theorem TX.sgn_in (T : TX w K mg) {q : Str × He.Dv} (h : q ∈ sgn) : ∃ u, PySem.W.nsIn K (He.ga K "SIGNS") q.1 = some (some u) := by
  obtain ⟨u, e, _⟩ := He.valsB_ok (He.ba (He.ba T.more).2).1 h
  exact ⟨u, e⟩
theorem TX.sgn_num (T : TX w K mg) : PySem.W.nsIn K (He.ga K "SIGNS") "num" = some none := He.eqO_ok (He.ba (He.ba (He.ba T.more).2).2).1
theorem TX.sgn_load (T : TX w K mg) : PySem.W.nsIn K (He.ga K "SIGNS") "load" = some none := He.eqO_ok (He.ba (He.ba (He.ba (He.ba T.more).2).2).2).1
theorem TX.sgn_now (T : TX w K mg) : PySem.W.nsIn K (He.ga K "SIGNS") "now" = some none := He.eqO_ok (He.ba (He.ba (He.ba (He.ba (He.ba T.more).2).2).2).2).1
theorem TX.kits (T : TX w K mg) : PMH.kits K = true := (He.ba (He.ba (He.ba (He.ba (He.ba (He.ba T.more).2).2).2).2).2).1
theorem TX.exF (T : TX w K mg) : PMH.exF K = true := (He.ba (He.ba (He.ba (He.ba (He.ba (He.ba T.more).2).2).2).2).2).2
theorem TX.kx_MillError (T : TX w K mg) : PySem.W.kitOne K (.ref (He.ga K "NoRow")) (.ref (He.ga K "MillError")) = some true := by
  have h := T.kits
  simp only [PMH.kits, Bool.and_eq_true, decide_eq_true_eq] at h
  exact h.1.1.1.1.1.1.1.1.1.1.1.1.1
theorem TX.kx_NoTree (T : TX w K mg) : PySem.W.kitOne K (.ref (He.ga K "NoRow")) (.ref (He.ga K "NoTree")) = some false := by
  have h := T.kits
  simp only [PMH.kits, Bool.and_eq_true, decide_eq_true_eq] at h
  exact h.1.1.1.1.1.1.1.1.1.1.1.1.2
theorem TX.kx_NoMill (T : TX w K mg) : PySem.W.kitOne K (.ref (He.ga K "NoRow")) (.ref (He.ga K "NoMill")) = some false := by
  have h := T.kits
  simp only [PMH.kits, Bool.and_eq_true, decide_eq_true_eq] at h
  exact h.1.1.1.1.1.1.1.1.1.1.1.2
theorem TX.kx_NoText (T : TX w K mg) : PySem.W.kitOne K (.ref (He.ga K "NoRow")) (.ref (He.ga K "NoText")) = some false := by
  have h := T.kits
  simp only [PMH.kits, Bool.and_eq_true, decide_eq_true_eq] at h
  exact h.1.1.1.1.1.1.1.1.1.1.2
theorem TX.kx_NoLetter (T : TX w K mg) : PySem.W.kitOne K (.ref (He.ga K "NoRow")) (.ref (He.ga K "NoLetter")) = some false := by
  have h := T.kits
  simp only [PMH.kits, Bool.and_eq_true, decide_eq_true_eq] at h
  exact h.1.1.1.1.1.1.1.1.1.2
theorem TX.kx_NoOrder (T : TX w K mg) : PySem.W.kitOne K (.ref (He.ga K "NoRow")) (.ref (He.ga K "NoOrder")) = some false := by
  have h := T.kits
  simp only [PMH.kits, Bool.and_eq_true, decide_eq_true_eq] at h
  exact h.1.1.1.1.1.1.1.1.2
theorem TX.kx_NoMoment (T : TX w K mg) : PySem.W.kitOne K (.ref (He.ga K "NoRow")) (.ref (He.ga K "NoMoment")) = some false := by
  have h := T.kits
  simp only [PMH.kits, Bool.and_eq_true, decide_eq_true_eq] at h
  exact h.1.1.1.1.1.1.1.2
theorem TX.kx_NoHand (T : TX w K mg) : PySem.W.kitOne K (.ref (He.ga K "NoRow")) (.ref (He.ga K "NoHand")) = some false := by
  have h := T.kits
  simp only [PMH.kits, Bool.and_eq_true, decide_eq_true_eq] at h
  exact h.1.1.1.1.1.1.2
theorem TX.kx_NotNow (T : TX w K mg) : PySem.W.kitOne K (.ref (He.ga K "NoRow")) (.ref (He.ga K "NotNow")) = some false := by
  have h := T.kits
  simp only [PMH.kits, Bool.and_eq_true, decide_eq_true_eq] at h
  exact h.1.1.1.1.1.2
theorem TX.kx_NoRound (T : TX w K mg) : PySem.W.kitOne K (.ref (He.ga K "NoRow")) (.ref (He.ga K "NoRound")) = some false := by
  have h := T.kits
  simp only [PMH.kits, Bool.and_eq_true, decide_eq_true_eq] at h
  exact h.1.1.1.1.2
theorem TX.kx_NoPlace (T : TX w K mg) : PySem.W.kitOne K (.ref (He.ga K "NoRow")) (.ref (He.ga K "NoPlace")) = some false := by
  have h := T.kits
  simp only [PMH.kits, Bool.and_eq_true, decide_eq_true_eq] at h
  exact h.1.1.1.2
theorem TX.kx_NoRow (T : TX w K mg) : PySem.W.kitOne K (.ref (He.ga K "NoRow")) (.ref (He.ga K "NoRow")) = some true := by
  have h := T.kits
  simp only [PMH.kits, Bool.and_eq_true, decide_eq_true_eq] at h
  exact h.1.1.2
theorem TX.kx_TooMany (T : TX w K mg) : PySem.W.kitOne K (.ref (He.ga K "NoRow")) (.ref (He.ga K "TooMany")) = some false := by
  have h := T.kits
  simp only [PMH.kits, Bool.and_eq_true, decide_eq_true_eq] at h
  exact h.1.2
theorem TX.kx_ValueError (T : TX w K mg) : PySem.W.kitOne K (.ref (He.ga K "NoRow")) (.type "ValueError") = some true := by
  have h := T.kits
  simp only [PMH.kits, Bool.and_eq_true, decide_eq_true_eq] at h
  exact h.2
end
end PMH
/-! part HH -/
set_option maxHeartbeats 0
namespace PMH
open PySem PySem.Spec PyProof.Rows L2
/-! ### the head: all that stands below a place is told -/
abbrev lowK (n : Nat) (g : Addr → Option Obj) : PySem.W.Frag := He.frT g (List.range n)
def told (n : Nat) (g : Addr → Option Obj) : He.AlX := (He.obsT fas fns tbs (lowK n g), exB (lowK n g) && He.tabsB g tfs (lowK n g))
theorem tab_told {K : PySem.W.Frag} {g : Addr → Option Obj} (h : He.tabsB g tfs K = true) {p : He.Defn} (hp : p ∈ tfs) : PySem.W.codeHdIn K (He.cT K p).1 (He.cT K p).2 = true ∧ ∃ o, g (He.cT K p).2 = some o ∧ He.emptyTab o = true := by
  have q := (Bool.and_eq_true _ _).mp (List.all_eq_true.mp h p hp)
  cases r : g (He.cT K p).2 with
  | none => exact absurd q.2 (by rw [r]; decide)
  | some o => exact ⟨q.1, o, rfl, by have z := q.2; rw [r] at z; exact z⟩
theorem told_says {n : Nat} {w : World} {h : Heap} (e : told n h.get? = He.valX fns tbs w) : He.SaysX fas fns tbs tfs exB w h (lowK n h.get?) := by
  injection e with e1 e2
  have e2 := (Bool.and_eq_true _ _).mp e2
  have tt := fun p hp => tab_told e2.2 (p := p) hp
  refine { t := e1, more := e2.1, hd := fun p hp => (tt p hp).1, out := fun p hp => ?_, empty := fun p hp => ?_ }
  · obtain ⟨o, r1, r2⟩ := (tt p hp).2
    exact He.frT_none r1 r2
  · obtain ⟨o, r1, r2⟩ := (tt p hp).2
    exact r1.trans (congrArg some (He.emptyTab_eq r2))
def lowHook (n : Nat) : PySem.W.Hook where
  α := He.AlX
  obs s := told n s.heap.get?
  val := He.valX fns tbs
  says w h := ∃ K : PySem.W.Frag, K.In h ∧ He.SaysX fas fns tbs tfs exB w h K
  of _ _ e := ⟨_, He.frT_in, told_says e⟩
  keeps _ _ _ q k := q.elim fun K z => ⟨K, z.1.keeps k, { z.2 with empty := fun p hp => k _ _ (z.2.empty p hp) }⟩
abbrev R : PySem.W.OpenRow := PySem.W.OpenLaw.row PySem.Challenge.rw_pastmill_k47_whole_cut_down
abbrev hk : PySem.W.Hook := lowHook 700
def ob (s : PySem.W.SharedT) : He.AlX := told 700 (HandSHeadRun.getT s)
theorem ob_eq (s : PySem.W.SharedT) : ob s = hk.obs s.abs := congrArg (told 700) (funext (HandSHeadRun.getT_eq s))
abbrev Rq (w : World) : Prop := HandSHeadRun.RunEq R (PySem.W.view R.prog [111]) hk ob 20000 loose w
theorem run0 (w : World) : Rq (w.withFollow "special-get-raises" false) := by
  intro os
  kernel_rfl
theorem run1 (w : World) : Rq (w.withFollow "special-get-raises" true) := by
  intro os
  kernel_rfl
theorem run (w : World) : Rq w := PySem.W.byRow2 "special-get-raises" (P := Rq) run0 run1 w
end PMH
/-! part PB -/
set_option maxHeartbeats 4500000
namespace PM
open PySem PySem.Spec PyProof.Rows L2 PMH
open Evl (Ex)
/-! ### heaps -/
def At (H : Hp) (a : Addr) (o : HO) : Prop := H a = some o
/-- what never changes -/
def Fx : HO → Prop
  | .tup _ => True
  | .frz _ _ => True
  | _ => False
def Tx (H H' : Hp) : Prop := ∀ a u, Fx u → H a = some u → H' a = some u
/-- all is kept but what stands at R -/
def Kp (R : List Addr) (H H' : Hp) : Prop := ∀ a o, H a = some o → a ∉ R → H' a = some o
theorem Tx.refl (H : Hp) : Tx H H := fun _ _ _ h => h
theorem Tx.trans {H H1 H2 : Hp} (a : Tx H H1) (b : Tx H1 H2) : Tx H H2 := fun x o f h => b x o f (a x o f h)
theorem Tx.ex {H H' : Hp} (e : Ex H H') : Tx H H' := fun a u _ h => e a u h
theorem At.ex {H H' : Hp} {a : Addr} {o : HO} (h : At H a o) (e : Ex H H') : At H' a o := e a o h
theorem At.tx {H H' : Hp} {a : Addr} {xs : List V} (h : At H a (.tup xs)) (e : Tx H H') : At H' a (.tup xs) := e a _ trivial h
theorem At.kp {H H' : Hp} {R : List Addr} {a : Addr} {o : HO} (h : At H a o) (e : Kp R H H') (n : a ∉ R) : At H' a o := e a o h n
theorem at_new {H : Hp} {p : Addr} {o : HO} : At (upd H p o) p o := upd_same
theorem ex_new {H : Hp} {p : Addr} {o : HO} (h : H p = none) : Ex H (upd H p o) := Evl.Ex.new h
theorem ex_upd {H H' : Hp} {p : Addr} {o : HO} (e : Ex H H') (h : H p = none) : Ex H (upd H' p o) := Evl.Ex.mut e h
theorem ex_kp {H H1 H2 : Hp} {R : List Addr} (e : Ex H H1) (k : Kp R H1 H2) (n : ∀ a ∈ R, H a = none) : Ex H H2 := fun a o h => k a o (e a o h) fun m => by
  rw [n a m] at h
  cases h
theorem kp_ex {H H' : Hp} {R : List Addr} (e : Ex H H') : Kp R H H' := fun a o h _ => e a o h
theorem Kp.trans {H H1 H2 : Hp} {R : List Addr} (a : Kp R H H1) (b : Kp R H1 H2) : Kp R H H2 := fun x o h n => b x o (a x o h n) n
theorem Kp.refl {H : Hp} {R : List Addr} : Kp R H H := fun _ _ h _ => h
theorem kp_upd {H : Hp} {R : List Addr} {p : Addr} {o : HO} (n : p ∈ R) : Kp R H (upd H p o) := fun a u h m => by
  rw [upd_ne (fun z => m (by rw [z]; exact n))]
  exact h
theorem kp_new {H : Hp} {R : List Addr} {p : Addr} {o : HO} (n : H p = none) : Kp R H (upd H p o) := kp_ex (ex_new n)
theorem Kp.mono {H H' : Hp} {R R' : List Addr} (k : Kp R H H') (s : ∀ a ∈ R, a ∈ R') : Kp R' H H' := fun a o h n => k a o h fun m => n (s a m)
/-- H without what stands at R -/
def wo (R : List Addr) (H : Hp) : Hp := fun a => if a ∈ R then none else H a
theorem wo_at {H : Hp} {R : List Addr} {a : Addr} {o : HO} (h : At H a o) (n : a ∉ R) : At (wo R H) a o := by
  show (if a ∈ R then none else H a) = some o
  rw [if_neg n]
  exact h
theorem wo_none {H : Hp} {R : List Addr} {a : Addr} (n : a ∈ R) : wo R H a = none := if_pos n
theorem wo_ex {H : Hp} {R : List Addr} : Ex (wo R H) H := fun a o h => by
  have h1 : (if a ∈ R then none else H a) = some o := h
  split at h1
  · cases h1
  · exact h1
theorem kp_of_wo {H H' : Hp} {R : List Addr} (e : Ex (wo R H) H') : Kp R H H' := fun a o h n => e a o (wo_at h n)
theorem tx_kp {H H' : Hp} {R : List Addr} (k : Kp R H H') (n : ∀ a ∈ R, ∀ u, Fx u → H a ≠ some u) : Tx H H' := fun a u f h => k a _ h fun m => n a m u f h
theorem fresh_back {H H' : Hp} {p : Addr} (e : Ex H H') (h : H' p = none) : H p = none := Evl.fresh_back e h
/-- a tuple that is known to have no attributes -/
def Fz (xs : List V) (a : Addr) (H : Hp) : Prop := ∃ o : Obj, o.dict = none ∧ At H a (.frz o (.tup xs))
theorem Fz.tx {H H' : Hp} {a : Addr} {xs : List V} (h : Fz xs a H) (e : Tx H H') : Fz xs a H' := by
  obtain ⟨o, h1, h2⟩ := h
  exact ⟨o, h1, e a _ trivial h2⟩
theorem Fz.rd {H : Hp} {a : Addr} {xs : List V} (h : Fz xs a H) : Rd H a (.tup xs) := by
  obtain ⟨o, h1, h2⟩ := h
  exact .inr ⟨o, h2⟩
theorem Fz.sqT {K : PySem.W.Frag} {H : Hp} {a : Addr} {xs : List V} (h : Fz xs a H) : SqT K H a xs := .inl h.rd
theorem At.ne {H : Hp} {a b : Addr} {o u : HO} (h : At H a o) (h' : At H b u) (d : o ≠ u) : a ≠ b := ne_of h h' d
theorem At.ne0 {H : Hp} {a b : Addr} {o : HO} (h : At H a o) (h' : H b = none) : a ≠ b := ne_of_none h h'
theorem At.sqT {K : PySem.W.Frag} {H : Hp} {a : Addr} {xs : List V} (h : At H a (.tup xs)) : SqT K H a xs := SqT.of h
theorem At.sqL {K : PySem.W.Frag} {H : Hp} {a : Addr} {xs : List V} (h : At H a (.lst xs)) : SqL K H a xs := SqL.of h
/-! ### what a pure def promises -/
def Ret (v : V) (H : Hp) (Q : VK) : Prop := ∀ H', Ex H H' → Q v H'
/-! ### a def of the module as it is called -/
structure Fn (P : Program) (w : World) (K : PySem.W.Frag) (mg : Str → Option Value) (base : Heap) (CX : CXT) (k : Nat) (x : Str) (ps : List Str) (sp : Sp) : Prop where
  ex : ∃ f fd, FnOk P w K mg base CX k f fd ps sp ∧ mg x = some (.ref f) ∧ PySem.W.keepIn K (.ref f) = true ∧ Binds K fd ps []
structure Me (P : Program) (w : World) (K : PySem.W.Frag) (mg : Str → Option Value) (base : Heap) (CX : CXT) (k : Nat) (C : Addr) (m : Str) (ps : List Str) (sp : Sp) : Prop where
  ex : ∃ f fd, FnOk P w K mg base CX k f fd ps sp ∧ Meth K C m f ∧ Binds K fd ps []
structure Cl (P : Program) (w : World) (K : PySem.W.Frag) (mg : Str → Option Value) (base : Heap) (CX : CXT) (k : Nat) (x : Str) (C : Addr) (ps : List Str) (sp : Sp) : Prop where
  ex : ∃ f fd, FnOk P w K mg base CX k f fd ps sp ∧ Mk K C f ∧ mg x = some (.ref C) ∧ Binds K fd ps []
theorem Fn.imp {P : Program} {w : World} {K : PySem.W.Frag} {mg : Str → Option Value} {base : Heap} {CX : CXT} {k : Nat} {x : Str} {ps : List Str} {sp sp' : Sp} (F : Fn P w K mg base CX k x ps sp) (h : ∀ vs H Q E, sp' vs H Q E → sp vs H Q E) : Fn P w K mg base CX k x ps sp' := by
  obtain ⟨f, fd, G, r⟩ := F.ex
  exact ⟨f, fd, G.imp h, r⟩
theorem Fn.mono {P : Program} {w : World} {K : PySem.W.Frag} {mg : Str → Option Value} {base : Heap} {CX : CXT} {j k : Nat} {x : Str} {ps : List Str} {sp : Sp} (F : Fn P w K mg base CX j x ps sp) (h : j ≤ k) : Fn P w K mg base CX k x ps sp := by
  obtain ⟨f, fd, G, r⟩ := F.ex
  exact ⟨f, fd, G.mono h, r⟩
section
variable {X : Cx} {CX : CXT} {k : Nat} {C : Addr} {ps : List Str} {sp : Sp} {E : XK} {x m : Str} {p pos apos : Pos} {e o : Expr} {es : List Expr} {ta : TE} {t : TA}
theorem pe_gint {i : Int} (hg : Gl X x) (hm : ∃ t, X.mg x = some (.int i t)) (hd : (x == ("__debug__" : Str)) = false := by decide) : PE X (.Name x p) (tC (.int i)) := hm.elim fun t e => pe_glob hg e ⟨t, rfl⟩ hd
theorem pe_gstr {z : Str} (hg : Gl X x) (hm : ∃ t, X.mg x = some (.str z t)) (hd : (x == ("__debug__" : Str)) = false := by decide) : PE X (.Name x p) (tC (.str z)) := hm.elim fun t e => pe_glob hg e ⟨t, rfl⟩ hd
theorem pe_gref {a : Addr} (hg : Gl X x) (hm : X.mg x = some (.ref a)) (hd : (x == ("__debug__" : Str)) = false := by decide) : PE X (.Name x p) (tC (.ref a)) := pe_glob hg hm rfl hd
end
end PM
/-! part PG -/
namespace PM
open PySem PySem.Spec PyProof.Rows L2 PMH
open Evl (Ex)
/-! ### readings, step by step: what is left to show -/
section
variable {σ : L2.St} {H : Hp} {Q : VK} {ta tb tc te : TE} {t u : TT} {v x y : V} {D : Ends} {K : PySem.W.Frag} {tr : TA} {a p : Addr} {xs ys : List V}
variable {nx bk ct : L2.St → Hp → Prop} {rt : VK}
theorem g_seq {s1 s2 : TS} (h : s1 ⟨s2 ⟨nx, rt, bk, ct⟩, rt, bk, ct⟩ σ H) : tSeq s1 s2 ⟨nx, rt, bk, ct⟩ σ H := h
theorem g_next (h : nx σ H) : tNext ⟨nx, rt, bk, ct⟩ σ H := h
theorem g_ret (h : ta σ H rt) : tRet ta ⟨nx, rt, bk, ct⟩ σ H := h
theorem g_asg {g : TG} (h : ta σ H fun x H1 => g x σ H1 nx) : tAsg ta g ⟨nx, rt, bk, ct⟩ σ H := h
theorem g_drop (h : ta σ H fun _ H1 => nx σ H1) : tDrop ta ⟨nx, rt, bk, ct⟩ σ H := h
theorem g_ifs {s1 s2 : TS} (h : t σ H fun b H1 => if b = true then s1 ⟨nx, rt, bk, ct⟩ σ H1 else s2 ⟨nx, rt, bk, ct⟩ σ H1) : tIfS t s1 s2 ⟨nx, rt, bk, ct⟩ σ H := h
theorem g_iteT {A B : Prop} (h : A) : if true = true then A else B := iteT h
theorem g_iteF {A B : Prop} (h : B) : if false = true then A else B := iteF h
theorem g_c (h : Q v H) : tC v σ H Q := h
theorem g_v0 (h : Q v H) : tVar 0 (some v :: σ) H Q := ⟨v, rfl, h⟩
theorem g_vs {o : Option V} {i : Nat} (h : tVar i σ H Q) : tVar (i + 1) (o :: σ) H Q := h
variable {o0 o1 o2 o3 o4 o5 o6 o7 o8 o9 o10 o11 o12 o13 o14 o15 o16 : Option V}
theorem g_v1 (h : Q v H) : tVar 1 (o0 :: some v :: σ) H Q := ⟨v, rfl, h⟩
theorem g_v2 (h : Q v H) : tVar 2 (o0 :: o1 :: some v :: σ) H Q := ⟨v, rfl, h⟩
theorem g_v3 (h : Q v H) : tVar 3 (o0 :: o1 :: o2 :: some v :: σ) H Q := ⟨v, rfl, h⟩
theorem g_v4 (h : Q v H) : tVar 4 (o0 :: o1 :: o2 :: o3 :: some v :: σ) H Q := ⟨v, rfl, h⟩
theorem g_v5 (h : Q v H) : tVar 5 (o0 :: o1 :: o2 :: o3 :: o4 :: some v :: σ) H Q := ⟨v, rfl, h⟩
theorem g_v6 (h : Q v H) : tVar 6 (o0 :: o1 :: o2 :: o3 :: o4 :: o5 :: some v :: σ) H Q := ⟨v, rfl, h⟩
theorem g_v7 (h : Q v H) : tVar 7 (o0 :: o1 :: o2 :: o3 :: o4 :: o5 :: o6 :: some v :: σ) H Q := ⟨v, rfl, h⟩
theorem g_v8 (h : Q v H) : tVar 8 (o0 :: o1 :: o2 :: o3 :: o4 :: o5 :: o6 :: o7 :: some v :: σ) H Q := ⟨v, rfl, h⟩
theorem g_v9 (h : Q v H) : tVar 9 (o0 :: o1 :: o2 :: o3 :: o4 :: o5 :: o6 :: o7 :: o8 :: some v :: σ) H Q := ⟨v, rfl, h⟩
theorem g_v10 (h : Q v H) : tVar 10 (o0 :: o1 :: o2 :: o3 :: o4 :: o5 :: o6 :: o7 :: o8 :: o9 :: some v :: σ) H Q := ⟨v, rfl, h⟩
theorem g_v11 (h : Q v H) : tVar 11 (o0 :: o1 :: o2 :: o3 :: o4 :: o5 :: o6 :: o7 :: o8 :: o9 :: o10 :: some v :: σ) H Q := ⟨v, rfl, h⟩
theorem g_v12 (h : Q v H) : tVar 12 (o0 :: o1 :: o2 :: o3 :: o4 :: o5 :: o6 :: o7 :: o8 :: o9 :: o10 :: o11 :: some v :: σ) H Q := ⟨v, rfl, h⟩
theorem g_v13 (h : Q v H) : tVar 13 (o0 :: o1 :: o2 :: o3 :: o4 :: o5 :: o6 :: o7 :: o8 :: o9 :: o10 :: o11 :: o12 :: some v :: σ) H Q := ⟨v, rfl, h⟩
theorem g_v14 (h : Q v H) : tVar 14 (o0 :: o1 :: o2 :: o3 :: o4 :: o5 :: o6 :: o7 :: o8 :: o9 :: o10 :: o11 :: o12 :: o13 :: some v :: σ) H Q := ⟨v, rfl, h⟩
theorem g_v15 (h : Q v H) : tVar 15 (o0 :: o1 :: o2 :: o3 :: o4 :: o5 :: o6 :: o7 :: o8 :: o9 :: o10 :: o11 :: o12 :: o13 :: o14 :: some v :: σ) H Q := ⟨v, rfl, h⟩
variable {R : L2.St → Hp → Prop}
theorem g_n0 (h : R (some v :: σ) H) : gName 0 v (o0 :: σ) H R := h
theorem g_n1 (h : R (o0 :: some v :: σ) H) : gName 1 v (o0 :: o1 :: σ) H R := h
theorem g_n2 (h : R (o0 :: o1 :: some v :: σ) H) : gName 2 v (o0 :: o1 :: o2 :: σ) H R := h
theorem g_n3 (h : R (o0 :: o1 :: o2 :: some v :: σ) H) : gName 3 v (o0 :: o1 :: o2 :: o3 :: σ) H R := h
theorem g_n4 (h : R (o0 :: o1 :: o2 :: o3 :: some v :: σ) H) : gName 4 v (o0 :: o1 :: o2 :: o3 :: o4 :: σ) H R := h
theorem g_n5 (h : R (o0 :: o1 :: o2 :: o3 :: o4 :: some v :: σ) H) : gName 5 v (o0 :: o1 :: o2 :: o3 :: o4 :: o5 :: σ) H R := h
theorem g_n6 (h : R (o0 :: o1 :: o2 :: o3 :: o4 :: o5 :: some v :: σ) H) : gName 6 v (o0 :: o1 :: o2 :: o3 :: o4 :: o5 :: o6 :: σ) H R := h
theorem g_n7 (h : R (o0 :: o1 :: o2 :: o3 :: o4 :: o5 :: o6 :: some v :: σ) H) : gName 7 v (o0 :: o1 :: o2 :: o3 :: o4 :: o5 :: o6 :: o7 :: σ) H R := h
theorem g_n8 (h : R (o0 :: o1 :: o2 :: o3 :: o4 :: o5 :: o6 :: o7 :: some v :: σ) H) : gName 8 v (o0 :: o1 :: o2 :: o3 :: o4 :: o5 :: o6 :: o7 :: o8 :: σ) H R := h
theorem g_n9 (h : R (o0 :: o1 :: o2 :: o3 :: o4 :: o5 :: o6 :: o7 :: o8 :: some v :: σ) H) : gName 9 v (o0 :: o1 :: o2 :: o3 :: o4 :: o5 :: o6 :: o7 :: o8 :: o9 :: σ) H R := h
theorem g_n10 (h : R (o0 :: o1 :: o2 :: o3 :: o4 :: o5 :: o6 :: o7 :: o8 :: o9 :: some v :: σ) H) : gName 10 v (o0 :: o1 :: o2 :: o3 :: o4 :: o5 :: o6 :: o7 :: o8 :: o9 :: o10 :: σ) H R := h
theorem g_n11 (h : R (o0 :: o1 :: o2 :: o3 :: o4 :: o5 :: o6 :: o7 :: o8 :: o9 :: o10 :: some v :: σ) H) : gName 11 v (o0 :: o1 :: o2 :: o3 :: o4 :: o5 :: o6 :: o7 :: o8 :: o9 :: o10 :: o11 :: σ) H R := h
theorem g_n12 (h : R (o0 :: o1 :: o2 :: o3 :: o4 :: o5 :: o6 :: o7 :: o8 :: o9 :: o10 :: o11 :: some v :: σ) H) : gName 12 v (o0 :: o1 :: o2 :: o3 :: o4 :: o5 :: o6 :: o7 :: o8 :: o9 :: o10 :: o11 :: o12 :: σ) H R := h
theorem g_n13 (h : R (o0 :: o1 :: o2 :: o3 :: o4 :: o5 :: o6 :: o7 :: o8 :: o9 :: o10 :: o11 :: o12 :: some v :: σ) H) : gName 13 v (o0 :: o1 :: o2 :: o3 :: o4 :: o5 :: o6 :: o7 :: o8 :: o9 :: o10 :: o11 :: o12 :: o13 :: σ) H R := h
theorem g_n14 (h : R (o0 :: o1 :: o2 :: o3 :: o4 :: o5 :: o6 :: o7 :: o8 :: o9 :: o10 :: o11 :: o12 :: o13 :: some v :: σ) H) : gName 14 v (o0 :: o1 :: o2 :: o3 :: o4 :: o5 :: o6 :: o7 :: o8 :: o9 :: o10 :: o11 :: o12 :: o13 :: o14 :: σ) H R := h
theorem g_n15 (h : R (o0 :: o1 :: o2 :: o3 :: o4 :: o5 :: o6 :: o7 :: o8 :: o9 :: o10 :: o11 :: o12 :: o13 :: o14 :: some v :: σ) H) : gName 15 v (o0 :: o1 :: o2 :: o3 :: o4 :: o5 :: o6 :: o7 :: o8 :: o9 :: o10 :: o11 :: o12 :: o13 :: o14 :: o15 :: σ) H R := h
theorem g_op {r : R2} (h : ta σ H fun x H1 => tb σ H1 fun y H2 => r x y H2 Q) : tOp r ta tb σ H Q := h
theorem g_un {r : V → Hp → VK → Prop} (h : ta σ H fun x H1 => r x H1 Q) : tUn r ta σ H Q := h
theorem g_uI {g : Int → Int} {i : Int} (h : Q (.int (g i)) H) : rU (fun i => .int (g i)) (.int i) H Q := ⟨i, rfl, h⟩
theorem g_I0 {g : Int → Int → V} {i j : Int} (h : Q (g i j) H) : rI0 g (.int i) (.int j) H Q := ⟨i, j, rfl, rfl, h⟩
theorem g_I {C : Int → Int → Prop} {g : Int → Int → V} {i j : Int} (c : C i j) (h : Q (g i j) H) : rI C g (.int i) (.int j) H Q := ⟨i, j, rfl, rfl, c, h⟩
theorem g_eqS {z z' : Str} (h : Q (.bl (decide (z = z'))) H) : rEq (.str z) (.str z') H Q := ⟨rfl, by
  have e : decide (V.str z = V.str z') = decide (z = z') := by simp
  rw [e]
  exact h⟩
theorem g_eqI {i j : Int} (h : Q (.bl (decide (i = j))) H) : rEq (.int i) (.int j) H Q := ⟨rfl, by
  have e : decide (V.int i = V.int j) = decide (i = j) := by simp
  rw [e]
  exact h⟩
theorem g_neS {z z' : Str} (h : Q (.bl (!decide (z = z'))) H) : rNe (.str z) (.str z') H Q := ⟨rfl, by
  have e : decide (V.str z = V.str z') = decide (z = z') := by simp
  rw [e]
  exact h⟩
theorem g_neI {i j : Int} (h : Q (.bl (!decide (i = j))) H) : rNe (.int i) (.int j) H Q := ⟨rfl, by
  have e : decide (V.int i = V.int j) = decide (i = j) := by simp
  rw [e]
  exact h⟩
theorem g_neB {i j : Bool} (h : Q (.bl (!decide (i = j))) H) : rNe (.bl i) (.bl j) H Q := ⟨rfl, by
  have e : decide (V.bl i = V.bl j) = decide (i = j) := by simp
  rw [e]
  exact h⟩
theorem g_test {b : Bool} {R : Bool → Hp → Prop} (h : R b H) : (fun x H' => ∃ k, x = V.bl k ∧ R k H') (V.bl b) H := ⟨b, rfl, h⟩
theorem g_tst {R : Bool → Hp → Prop} (h : ta σ H fun x H' => ∃ k, x = .bl k ∧ R k H') : tTest ta σ H R := h
theorem g_tB {R : Bool → Hp → Prop} (h : ta σ H fun x H' => ∃ k, x = .bl k ∧ R k H') : tB ta σ H R := h
theorem g_k {b : Bool} {R : Bool → Prop} (h : R b) : ∃ k, V.bl b = V.bl k ∧ R k := ⟨b, rfl, h⟩
theorem g_and {R : Bool → Hp → Prop} (h : t σ H fun c H1 => if c = true then u σ H1 R else R false H1) : tAnd t u σ H R := h
theorem g_or {R : Bool → Hp → Prop} (h : t σ H fun c H1 => if c = true then R true H1 else u σ H1 R) : tOr t u σ H R := h
theorem g_not {R : Bool → Hp → Prop} (h : t σ H fun c H1 => R (!c) H1) : tNot t σ H R := h
theorem g_andV (h : ta σ H fun x H1 => ∃ c, x = .bl c ∧ if c = true then tb σ H1 Q else Q (.bl false) H1) : tAndV ta tb σ H Q := h
theorem g_orV (h : ta σ H fun x H1 => ∃ c, x = .bl c ∧ if c = true then Q (.bl true) H1 else tb σ H1 Q) : tOrV ta tb σ H Q := h
theorem g_notV (h : ta σ H fun x H1 => ∃ c, x = .bl c ∧ Q (.bl (!c)) H1) : tNotV ta σ H Q := h
theorem g_if (h : t σ H fun c H1 => if c = true then ta σ H1 Q else tb σ H1 Q) : tIf t ta tb σ H Q := h
theorem g_chain {r r' : R2} (h : ta σ H fun x H1 => tb σ H1 fun y H2 => r x y H2 fun z H3 => ∃ k, z = .bl k ∧ (if k = true then tc σ H3 fun w' H4 => r' y w' H4 Q else Q (.bl false) H3)) : tChain r r' ta tb tc σ H Q := h
theorem g_nil {R : List V → Hp → Prop} (h : R [] H) : tNil σ H R := h
theorem g_cons {R : List V → Hp → Prop} (h : ta σ H fun x H1 => tr σ H1 fun xs H2 => R (x :: xs) H2) : tCons ta tr σ H R := h
def NewT (Q : VK) (xs : List V) (H1 : Hp) : Prop := xs.length ≤ sizeLine ∧ ∀ p, H1 p = none → Q (.ref p) (upd H1 p (.tup xs))
theorem g_tup (h : tr σ H (NewT Q)) : tTup tr σ H Q := h
def NewL (Q : VK) (xs : List V) (H1 : Hp) : Prop := xs.length ≤ sizeLine ∧ ∀ p, H1 p = none → Q (.ref p) (upd H1 p (.lst xs))
theorem g_lst (h : tr σ H (NewL Q)) : tLst tr σ H Q := h
/-- a new object: the heap from then on is a letter -/
theorem g_new {o : HO} (h : ∀ p H1, H p = none → Ex H H1 → At H1 p o → Q (.ref p) H1) : ∀ p, H p = none → Q (.ref p) (upd H p o) := fun p hp => h p _ hp (ex_new hp) at_new
theorem g_call {sp : Sp} {E : XK} (h : tr σ H fun vs H1 => sp vs H1 Q E) : tCall sp [] E tr σ H Q := by
  have e : (fun vs H1 => sp (vs ++ []) H1 Q E) = fun vs H1 => sp vs H1 Q E := by
    funext vs H1
    rw [List.append_nil]
  show tr σ H fun vs H1 => sp (vs ++ []) H1 Q E
  rw [e]
  exact h
def MethC (C : Addr) (m : Str) (sp : Sp) (E : XK) (tr : TA) (σ : L2.St) (Q : VK) : VK := fun x H1 => ∃ a dx fs, x = .ref a ∧ H1 a = some (.ins C dx fs) ∧ fs.lookup m = none ∧ tr σ H1 fun vs H2 => sp (x :: vs) H2 Q E
theorem g_meth {C : Addr} {m : Str} {sp : Sp} {E : XK} (h : ta σ H (MethC C m sp E tr σ Q)) : tMeth C m sp [] E ta tr σ H Q := by
  have e : ∀ x : V, (fun (vs : List V) (H2 : Hp) => sp (x :: (vs ++ [])) H2 Q E) = fun vs H2 => sp (x :: vs) H2 Q E := by
    intro x
    funext vs H1
    rw [List.append_nil]
  show ta σ H fun x H1 => ∃ a dx fs, x = .ref a ∧ H1 a = some (.ins C dx fs) ∧ fs.lookup m = none ∧ tr σ H1 fun vs H2 => sp (x :: (vs ++ [])) H2 Q E
  simp only [e]
  exact h
theorem g_methA {C dx : Addr} {fs : List (Str × V)} {m : Str} {sp : Sp} {E : XK} (h : At H a (.ins C dx fs)) (n : fs.lookup m = none) (q : tr σ H fun vs H2 => sp (.ref a :: vs) H2 Q E) : MethC C m sp E tr σ Q (.ref a) H := ⟨a, dx, fs, rfl, h, n, q⟩
def MkK (C : Addr) (sp : Sp) (E : XK) (Q : VK) (vs : List V) (H1 : Hp) : Prop := ∀ x dx, H1 x = none → H1 dx = none → dx ≠ x → sp (.ref x :: vs) (upd (upd H1 dx (.own x)) x (.ins C dx [])) (fun v H2 => v = .non ∧ Q (.ref x) H2) E
theorem g_make {C : Addr} {sp : Sp} {E : XK} (h : tr σ H (MkK C sp E Q)) : tMake C sp [] E tr σ H Q := by
  have e : (fun vs H1 => ∀ x dx, H1 x = none → H1 dx = none → dx ≠ x → sp (.ref x :: (vs ++ [])) (upd (upd H1 dx (.own x)) x (.ins C dx [])) (fun v H2 => v = .non ∧ Q (.ref x) H2) E) = MkK C sp E Q := by
    funext vs H1
    rw [List.append_nil]
    rfl
  show tr σ H fun vs H1 => ∀ x dx, H1 x = none → H1 dx = none → dx ≠ x → sp (.ref x :: (vs ++ [])) (upd (upd H1 dx (.own x)) x (.ins C dx [])) (fun v H2 => v = .non ∧ Q (.ref x) H2) E
  rw [e]
  exact h
theorem g_cb {r : List V → Hp → VK → Prop} (h : tr σ H fun vs H1 => r vs H1 Q) : tCB r tr σ H Q := h
def FldK (K : PySem.W.Frag) (f : Str) (Q : VK) : VK := fun x H1 => ∃ a C dx fs v, x = .ref a ∧ H1 a = some (.ins C dx fs) ∧ Cls K C ∧ NoAttr K C f ∧ fs.lookup f = some v ∧ Q v H1
theorem g_fld {f : Str} (h : ta σ H (FldK K f Q)) : tFld K ta f σ H Q := h
theorem g_fldA {C dx : Addr} {fs : List (Str × V)} {f : Str} (h : At H a (.ins C dx fs)) (c : Cls K C) (n : NoAttr K C f) (l : fs.lookup f = some v) (q : Q v H) : FldK K f Q (.ref a) H := ⟨a, C, dx, fs, v, rfl, h, c, n, l, q⟩
theorem g_ixT {i : Int} (h : At H a (.tup xs)) (l : atI xs i = some v) (q : Q v H) : rIxT K (.ref a) (.int i) H Q := ⟨a, xs, i, v, rfl, rfl, h.sqT, l, q⟩
theorem g_ixL {i : Int} (h : At H a (.lst xs)) (l : atI xs i = some v) (q : Q v H) : rIxL K (.ref a) (.int i) H Q := ⟨a, xs, i, v, rfl, rfl, h.sqL, l, q⟩
theorem g_inT {z : V} {neg : Bool} (h : SqT K H a xs) (f : flatV z = true) (fs : xs.all flatV = true) (q : Q (.bl (if neg then !inV z xs else inV z xs)) H) : rIn K neg z (.ref a) H Q := ⟨a, xs, rfl, .inr h, f, fs, q⟩
theorem g_inL {z : V} {neg : Bool} (h : SqL K H a xs) (f : flatV z = true) (fs : xs.all flatV = true) (q : Q (.bl (if neg then !inV z xs else inV z xs)) H) : rIn K neg z (.ref a) H Q := ⟨a, xs, rfl, .inl h, f, fs, q⟩
theorem g_lenT (h : At H a (.tup xs)) (q : Q (.int xs.length) H) : (fun (us : List V) (H : Hp) (Q : VK) => ∃ p ys, us = [.ref p] ∧ (SqL K H p ys ∨ SqT K H p ys) ∧ Q (.int ys.length) H) [.ref a] H Q := ⟨a, xs, rfl, .inr h.sqT, q⟩
theorem g_lenL (h : At H a (.lst xs)) (q : Q (.int xs.length) H) : (fun (us : List V) (H : Hp) (Q : VK) => ∃ p ys, us = [.ref p] ∧ (SqL K H p ys ∨ SqT K H p ys) ∧ Q (.int ys.length) H) [.ref a] H Q := ⟨a, xs, rfl, .inl h.sqL, q⟩
end
end PM
namespace PM
open PySem PySem.Spec PyProof.Rows L2 PMH
/-- sp speaks of as many values as there are names -/
def Counts (sp : Sp) (ps : List Str) : Prop := ∀ us H Q E, sp us H Q E → us.length = ps.length
/-- the def takes just the values that its names want -/
def Plain (nm qual : Str) (st : Stmt) (ps : List Str) : Prop := ∀ (kV doc pm : Value) (an : Option Addr) (cdv ct : Value) (us : List Value), us.length = ps.length → bindArgs (PySem.W.fnOf nm qual (defArgs st) (defBody st) (defScope st) .none kV doc pm an cdv ct) ⟨us, []⟩ = pure (ps.zip us)
/-- from its start with vs the body that t tells ends by the promise -/
def Ends1 (N : List Str) (vs : List V) (H : Hp) (Q : VK) (t : TS) : Prop := t { nx := fun _ => Q .non, rt := Q } (start N vs) H
def Runs (P : Program) (w : World) (K : PySem.W.Frag) (mg : Str → Option Value) (base : Heap) (N : List Str) (qual : Str) (st : Stmt) (k : Nat) (f : Addr) (sp : Sp) : Prop := ∀ (cdv : Value) (A : Around) (outer : List Env) (s : Shared) (H : Hp) (vs : List V) (Q : VK) (E : XK),
  Room k (A.deeper (envOfC qual (defScope st) s.heap.objs.size f cdv)) → sp vs H Q E → ∃ t, PSs (cxOf CX0 P w K mg base N qual (defScope st) f cdv A outer s H E).nox (defBody st) t ∧ Ends1 N vs H Q t
section
variable {P : Program} {w : World} {K : PySem.W.Frag} {mg : Str → Option Value} {base : Heap}
theorem fn_ok {nm qual : Str} {st : Stmt} {N ps : List Str} {k : Nat} {sp : Sp} {f : Addr} {fd : FuncData} (F : FunD K nm qual (defArgs st) (defBody st) (defScope st) [] [] f fd) (sc : FnScope N ps (defScope st)) (len : Counts sp ps) (body : Runs P w K mg base N qual st k f sp) :
    FnOk P w K mg base CX0 (k + 1) f fd ps sp := F.ok sc len fun cdv A outer s H vs Q E r h => (body cdv A outer s H vs Q E r h).imp fun _ b => ⟨b.1.nox, b.2⟩
theorem mk_fn {x nm qual : Str} {st : Stmt} {N ps : List Str} {k : Nat} {sp : Sp} {f : Addr} {fd : FuncData} (F : FunD K nm qual (defArgs st) (defBody st) (defScope st) [] [] f fd) (hm : mg x = some (.ref f)) (sc : FnScope N ps (defScope st)) (len : Counts sp ps) (bind : Plain nm qual st ps) (body : Runs P w K mg base N qual st k f sp) :
    Fn P w K mg base CX0 (k + 1) x ps sp := ⟨f, fd, fn_ok F sc len body, hm, F.kp, F.bindsN bind⟩
theorem mk_me {C : Addr} {m nm qual : Str} {st : Stmt} {N ps : List Str} {k : Nat} {sp : Sp} {f : Addr} {fd : FuncData} (F : FunD K nm qual (defArgs st) (defBody st) (defScope st) [] [] f fd) (hm : Meth K C m f) (sc : FnScope N ps (defScope st)) (len : Counts sp ps) (bind : Plain nm qual st ps) (body : Runs P w K mg base N qual st k f sp) :
    Me P w K mg base CX0 (k + 1) C m ps sp := ⟨f, fd, fn_ok F sc len body, hm, F.bindsN bind⟩
theorem mk_cl {C : Addr} {x nm qual : Str} {st : Stmt} {N ps : List Str} {k : Nat} {sp : Sp} {f : Addr} {fd : FuncData} (F : FunD K nm qual (defArgs st) (defBody st) (defScope st) [] [] f fd) (hm : Mk K C f) (hg : mg x = some (.ref C)) (sc : FnScope N ps (defScope st)) (len : Counts sp ps) (bind : Plain nm qual st ps) (body : Runs P w K mg base N qual st k f sp) :
    Cl P w K mg base CX0 (k + 1) x C ps sp := ⟨f, fd, fn_ok F sc len body, hm, hg, F.bindsN bind⟩
end
theorem g_start {t : TS} {nx : L2.St → Hp → Prop} {rt : VK} {σ σ' : L2.St} {H : Hp} (e : σ = σ') (h : t ⟨nx, rt, fun _ _ => False, fun _ _ => False⟩ σ' H) : t { nx := nx, rt := rt } σ H := e ▸ h
theorem g_ifD1 {c A B : Prop} [Decidable c] (hc : c) (h : A) : if decide c = true then A else B := by
  rw [if_pos (decide_eq_true hc)]
  exact h
theorem g_ifD0 {c A B : Prop} [Decidable c] (hc : ¬ c) (h : B) : if decide c = true then A else B := by
  rw [if_neg (by rw [decide_eq_true_eq]; exact hc)]
  exact h
theorem g_ifN1 {c A B : Prop} [Decidable c] (hc : ¬ c) (h : A) : if (!decide c) = true then A else B := by
  rw [decide_eq_false hc]
  exact h
theorem g_ifN0 {c A B : Prop} [Decidable c] (hc : c) (h : B) : if (!decide c) = true then A else B := by
  rw [decide_eq_true hc]
  exact h
end PM
/-! part PA -/
namespace PM
open PySem PySem.Spec PyProof.Rows L2 PMH
open Evl (Ex)
/-! ### rules under names of their own -/
def rInt1 : List V → Hp → VK → Prop := fun xs H Q => (∃ i, xs = [.int i] ∧ Q (.int i) H) ∨ ∃ k, xs = [.bl k] ∧ Q (.int (if k then 1 else 0)) H
def rAbs : List V → Hp → VK → Prop := fun xs H Q => ∃ i, xs = [.int i] ∧ Q (.int (if i < 0 then -i else i)) H
def rMin2 : List V → Hp → VK → Prop := fun xs H Q => ∃ i j, xs = [.int i, .int j] ∧ Q (.int (if j < i then j else i)) H
def rLenStr : List V → Hp → VK → Prop := fun xs H Q => ∃ z, xs = [.str z] ∧ z.length ≤ sizeLine ∧ Q (.int z.length) H
def rTupS (K : PySem.W.Frag) : List V → Hp → VK → Prop := fun xs H Q => ∃ p ys, xs = [.ref p] ∧ ((SqL K H p ys ∧ ∀ l, H l = none → Q (.ref l) (upd H l (.tup ys))) ∨ (SqT K H p ys ∧ Q (.ref p) H))
def rStrip : V → List V → Hp → VK → Prop := fun x xs H Q => ∃ a b, x = .str a ∧ xs = [.str b] ∧ a.length ≤ sizeLine ∧ Q (.str (Txt.stripChars a b)) H
def rInKd (K : PySem.W.Frag) (d : Addr) : R2 := fun x y H Q => ∃ (z : Str) (r : Option Value), x = .str z ∧ y = .ref d ∧ PySem.W.nsIn K d z = some r ∧ Q (.bl r.isSome) H
def rSortD : List V → Hp → VK → Prop := fun xs H Q => ∃ (a : Addr) (kvs : List (Key × V)) (ks : List Str), xs = [.ref a] ∧ Rd H a (.dK kvs) ∧ kvs.map (·.1) = ks.map Sum.inr ∧ ks.length < 64 ∧ ∀ ys p, ys.Perm ks → sortedS ys = true → H p = none → Q (.ref p) (upd H p (.lst (ys.map V.str)))
section
variable {X : Cx}
theorem bt_abs : bootBuiltins "abs" = some (.builtin "abs") := by decide +kernel
theorem bt_min : bootBuiltins "min" = some (.builtin "min") := by decide +kernel
theorem bt_sum : bootBuiltins "sum" = some (.builtin "sum") := by decide +kernel
theorem bt_all : bootBuiltins "all" = some (.builtin "all") := by decide +kernel
theorem bt_any : bootBuiltins "any" = some (.builtin "any") := by decide +kernel
theorem bt_sorted : bootBuiltins "sorted" = some (.builtin "sorted") := by decide +kernel
theorem bt_isinstance : bootBuiltins "isinstance" = some (.builtin "isinstance") := by decide +kernel
theorem bt_len : bootBuiltins "len" = some (.builtin "len") := PySem.boot_len
theorem bt_int : bootBuiltins "int" = some (.type "int") := by decide +kernel
theorem bt_str : bootBuiltins "str" = some (.type "str") := by decide +kernel
theorem bt_bool : bootBuiltins "bool" = some (.type "bool") := by decide +kernel
theorem bt_tuple : bootBuiltins "tuple" = some (.type "tuple") := by decide +kernel
theorem bt_list : bootBuiltins "list" = some (.type "list") := by decide +kernel
theorem bt_dict : bootBuiltins "dict" = some (.type "dict") := by decide +kernel
theorem bt_set : bootBuiltins "set" = some (.type "set") := by decide +kernel
theorem bt_ValueError : bootBuiltins "ValueError" = some (.type "ValueError") := by decide +kernel
theorem cl_len : CallR X (.builtin "len") (Evl.rLenS X.K) := call_len_seq
theorem cl_lenStr : CallR X (.builtin "len") rLenStr := call_len_str
theorem cl_int : CallR X (.type "int") rInt1 := call_int1
theorem cl_abs : CallR X (.builtin "abs") rAbs := call_abs
theorem cl_min (hc : X.calm = true) : CallR X (.builtin "min") rMin2 := call_min2 hc
theorem cl_list : CallR X (.type "list") (Evl.rListS X.K) := call_list_of
theorem cl_tuple : CallR X (.type "tuple") (rTupS X.K) := call_tuple_of
theorem cl_sortD (hc : X.calm = true) : CallR X (.builtin "sorted") rSortD := call_sortedD hc
theorem oq_inKd {d : Addr} (D : ∃ es n, KDict X.K X.w d es n) : OpR X (compareOp .In) (rInKd X.K d) := by
  obtain ⟨es, n, D⟩ := D
  exact op_in_kd D
theorem mq_strip : MtR X "str.strip" rStrip := mt_stripChars
end
section
variable {σ : L2.St} {H : Hp} {Q : VK} {ta tb tc te : TE} {t u : TT} {v x y : V} {D : Ends} {K : PySem.W.Frag} {tr : TA} {a p d : Addr} {xs ys : List V} {kvs : List (Key × V)}
theorem g_int1 {i : Int} (h : Q (.int i) H) : rInt1 [.int i] H Q := .inl ⟨i, rfl, h⟩
theorem g_intB {b : Bool} (h : Q (.int (if b then 1 else 0)) H) : rInt1 [.bl b] H Q := .inr ⟨b, rfl, h⟩
theorem g_abs {i : Int} (h : Q (.int (if i < 0 then -i else i)) H) : rAbs [.int i] H Q := ⟨i, rfl, h⟩
theorem g_min {i j : Int} (h : Q (.int (if j < i then j else i)) H) : rMin2 [.int i, .int j] H Q := ⟨i, j, rfl, h⟩
theorem g_lenStr {z : Str} (l : z.length ≤ sizeLine) (h : Q (.int z.length) H) : rLenStr [.str z] H Q := ⟨z, rfl, l, h⟩
theorem g_lnT (h : At H a (.tup xs)) (q : Q (.int xs.length) H) : Evl.rLenS K [.ref a] H Q := ⟨a, xs, rfl, .inr h.sqT, q⟩
theorem g_lnL (h : At H a (.lst xs)) (q : Q (.int xs.length) H) : Evl.rLenS K [.ref a] H Q := ⟨a, xs, rfl, .inl h.sqL, q⟩
theorem g_lnS (h : SqL K H a xs) (q : Q (.int xs.length) H) : Evl.rLenS K [.ref a] H Q := ⟨a, xs, rfl, .inl h, q⟩
theorem g_listL (h : At H a (.lst xs)) (q : ∀ p H1, H p = none → Ex H H1 → At H1 p (.lst xs) → Q (.ref p) H1) : Evl.rListS K [.ref a] H Q := ⟨a, xs, rfl, .inl h.sqL, g_new q⟩
theorem g_listT (h : At H a (.tup xs)) (q : ∀ p H1, H p = none → Ex H H1 → At H1 p (.lst xs) → Q (.ref p) H1) : Evl.rListS K [.ref a] H Q := ⟨a, xs, rfl, .inr h.sqT, g_new q⟩
theorem g_tupL (h : At H a (.lst xs)) (q : ∀ p H1, H p = none → Ex H H1 → At H1 p (.tup xs) → Q (.ref p) H1) : rTupS K [.ref a] H Q := ⟨a, xs, rfl, .inl ⟨h.sqL, g_new q⟩⟩
theorem g_isN {z : V} (h : Q (.bl (decide (z = .non))) H) : rIsN z .non H Q := ⟨rfl, h⟩
theorem g_inKd {z : Str} {r : Option Value} (e : PySem.W.nsIn K d z = some r) (h : Q (.bl r.isSome) H) : rInKd K d (.str z) (.ref d) H Q := ⟨z, r, rfl, rfl, e, h⟩
theorem g_isi {z c : V} {t' u' : Value} {b : Bool} (k : ClsV c u') (ty : TyX K H z t') (e : PySem.W.kitOne K t' u' = some b) (h : Q (.bl b) H) : rIsi K [z, c] H Q := ⟨z, c, t', u', b, rfl, k, ty, e, h⟩
theorem kt_ss {K : PySem.W.Frag} : PySem.W.kitOne K (.type "str") (.type "str") = some true := kit_ty (by decide +kernel)
theorem kt_tt {K : PySem.W.Frag} : PySem.W.kitOne K (.type "tuple") (.type "tuple") = some true := kit_ty (by decide +kernel)
theorem kt_ll {K : PySem.W.Frag} : PySem.W.kitOne K (.type "list") (.type "list") = some true := kit_ty (by decide +kernel)
theorem kt_ii {K : PySem.W.Frag} : PySem.W.kitOne K (.type "int") (.type "int") = some true := kit_ty (by decide +kernel)
theorem kt_bb {K : PySem.W.Frag} : PySem.W.kitOne K (.type "bool") (.type "bool") = some true := kit_ty (by decide +kernel)
theorem kt_ib {K : PySem.W.Frag} : PySem.W.kitOne K (.type "int") (.type "bool") = some false := kit_ty (by decide +kernel)
theorem g_isStr {z : Str} (h : Q (.bl true) H) : rIsi K [.str z, .ty "str"] H Q := g_isi (.ty _) (.base (.str z)) kt_ss h
theorem g_isInt {i : Int} (h : Q (.bl true) H) : rIsi K [.int i, .ty "int"] H Q := g_isi (.ty _) (.base (.int i)) kt_ii h
theorem g_isBool {b : Bool} (h : Q (.bl true) H) : rIsi K [.bl b, .ty "bool"] H Q := g_isi (.ty _) (.base (.bl b)) kt_bb h
theorem g_isIntBool {i : Int} (h : Q (.bl false) H) : rIsi K [.int i, .ty "bool"] H Q := g_isi (.ty _) (.base (.int i)) kt_ib h
theorem g_isTup (e : At H a (.tup xs)) (h : Q (.bl true) H) : rIsi K [.ref a, .ty "tuple"] H Q := g_isi (.ty _) (.base (.tup e)) kt_tt h
theorem g_isLst (e : At H a (.lst xs)) (h : Q (.bl true) H) : rIsi K [.ref a, .ty "list"] H Q := g_isi (.ty _) (.base (.lst e)) kt_ll h
theorem g_sum {ns : List Int} (e : At H a (.lst (ns.map V.int))) (h : Q (.int ns.sum) H) : rSum K [.ref a] H Q := ⟨a, ns, rfl, e.sqL, h⟩
theorem g_all {bs : List Bool} (e : At H a (.lst (bs.map V.bl))) (h : Q (.bl (bs.all id)) H) : rAll K [.ref a] H Q := ⟨a, bs, rfl, e.sqL, h⟩
theorem g_any {bs : List Bool} (e : At H a (.lst (bs.map V.bl))) (h : Q (.bl (bs.any id)) H) : rAny K [.ref a] H Q := ⟨a, bs, rfl, e.sqL, h⟩
def DgK (x y : V) (Q : VK) (H2 : Hp) : Prop := ∃ a v, x = .ref a ∧ DGet H2 a y (some v) ∧ Q v H2
theorem g_dget (h : ta σ H fun x H1 => tb σ H1 fun y H2 => DgK x y Q H2) : tDGet ta tb σ H Q := h
theorem g_dgetS {s : Str} (e : At H a (.dK kvs)) (l : valV kvs (Sum.inr s) = some v) (q : Q v H) : DgK (.ref a) (.str s) Q H := ⟨a, v, rfl, l ▸ DGet.k (k := Sum.inr s) e, q⟩
variable {nx bk ct : L2.St → Hp → Prop} {rt : VK}
theorem g_dput {td ty tv : TE} (h : tv σ H fun v H1 => td σ H1 fun x H2 => ty σ H2 fun y H3 => ∃ a H4, x = .ref a ∧ DPut H3 a y v H4 ∧ nx σ H4) : sDPut td ty tv ⟨nx, rt, bk, ct⟩ σ H := h
theorem g_dputS {s : Str} {R : Hp → Prop} (e : At H a (.dK kvs)) (l : kvs.length < sizeLine) (q : R (upd H a (.dK (putK kvs (Sum.inr s) v)))) : ∃ a' H4, V.ref a = .ref a' ∧ DPut H a' (.str s) v H4 ∧ R H4 := ⟨a, _, rfl, DPut.k (k := Sum.inr s) e l, q⟩
theorem g_bm {T : String} {r : V → List V → Hp → VK → Prop} {to : TE} (h : to σ H fun x H1 => tyV K T x H1 ∧ tr σ H1 fun xs H2 => r x xs H2 Q) : tBM K T r to tr σ H Q := h
theorem g_bm0 {T : String} {r : V → List V → Hp → VK → Prop} {to : TE} (h : to σ H fun x H1 => tyV K T x H1 ∧ r x [] H1 Q) : tBM0 K T r to σ H Q := h
theorem g_tyL {P : Prop} (e : At H a (.lst xs)) (q : P) : tyV K "list" (.ref a) H ∧ P := ⟨.inl ⟨rfl, xs, e.sqL⟩, q⟩
theorem g_app (e : At H a (.lst xs)) (l : xs.length < sizeLine) (q : Q .non (upd H a (.lst (xs ++ [v])))) : rAppend (.ref a) [v] H Q := ⟨a, xs, v, rfl, rfl, e, l, q⟩
theorem g_setL {i w' : V} {j : Nat} {k : Int} {R : Hp → Prop} (e : At H a (.lst xs)) (l : ixN xs.length k = some j) (q : R (upd H a (.lst (xs.set j v)))) : rSetL (.ref a) (.int k) v H R := ⟨a, xs, k, j, rfl, rfl, e, l, q⟩
theorem g_inT0 {z : V} {b : Bool} (h : SqT K H a xs) (f : flatV z = true) (fs : xs.all flatV = true) (e : inV z xs = b) (q : Q (.bl b) H) : rIn K false z (.ref a) H Q := ⟨a, xs, rfl, .inr h, f, fs, by subst e; exact q⟩
theorem g_inT1 {z : V} {b : Bool} (h : SqT K H a xs) (f : flatV z = true) (fs : xs.all flatV = true) (e : (!inV z xs) = b) (q : Q (.bl b) H) : rIn K true z (.ref a) H Q := ⟨a, xs, rfl, .inr h, f, fs, by subst e; exact q⟩
theorem g_inL0 {z : V} {b : Bool} (h : SqL K H a xs) (f : flatV z = true) (fs : xs.all flatV = true) (e : inV z xs = b) (q : Q (.bl b) H) : rIn K false z (.ref a) H Q := ⟨a, xs, rfl, .inl h, f, fs, by subst e; exact q⟩
theorem g_inL1 {z : V} {b : Bool} (h : SqL K H a xs) (f : flatV z = true) (fs : xs.all flatV = true) (e : (!inV z xs) = b) (q : Q (.bl b) H) : rIn K true z (.ref a) H Q := ⟨a, xs, rfl, .inl h, f, fs, by subst e; exact q⟩
theorem g_sl {r : V → Option Int → Option Int → Hp → VK → Prop} {tl th : TO} (h : ta σ H fun x H1 => tl σ H1 fun lo H2 => th σ H2 fun hi H3 => r x lo hi H3 Q) : tSl r ta tl th σ H Q := h
theorem g_po0 {R : Option Int → Hp → Prop} (h : R none H) : tNoPart σ H R := h
theorem g_po {R : Option Int → Hp → Prop} (h : ta σ H fun x H1 => ∃ i, x = .int i ∧ R (some i) H1) : tPart ta σ H R := h
theorem g_poI {i : Int} {R : Int → Prop} (h : R i) : ∃ j, V.int i = .int j ∧ R j := ⟨i, rfl, h⟩
theorem g_slT {lo hi : Option Int} (h : At H a (.tup xs)) (n : ¬ (HT.sIx xs.length 0 lo = 0 ∧ HT.sIx xs.length xs.length hi = xs.length)) (q : ∀ p H1, H p = none → Ex H H1 → At H1 p (.tup (cutV xs lo hi)) → Q (.ref p) H1) : rSlA K (.ref a) lo hi H Q :=
  ⟨a, xs, rfl, h.sqT, fun z => absurd z n, fun _ => g_new q⟩
theorem g_slTw {lo hi : Option Int} (h : At H a (.tup xs)) (n : HT.sIx xs.length 0 lo = 0 ∧ HT.sIx xs.length xs.length hi = xs.length) (q : Q (.ref a) H) : rSlA K (.ref a) lo hi H Q := ⟨a, xs, rfl, h.sqT, fun _ => q, fun z => absurd n z⟩
theorem g_slT2 {lo hi : Option Int} (h : At H a (.tup xs)) (q : ∀ p H1, Ex H H1 → At H1 p (.tup (cutV xs lo hi)) → Q (.ref p) H1) (w : HT.sIx xs.length 0 lo = 0 ∧ HT.sIx xs.length xs.length hi = xs.length → cutV xs lo hi = xs) : rSlA K (.ref a) lo hi H Q :=
  ⟨a, xs, rfl, h.sqT, fun z => q a H (Evl.Ex.refl H) (by rw [w z]; exact h), fun _ => g_new fun p H1 _ e h1 => q p H1 e h1⟩
theorem cut_whole {lo hi : Option Int} (z : HT.sIx xs.length 0 lo = 0 ∧ HT.sIx xs.length xs.length hi = xs.length) : cutV xs lo hi = xs := by
  unfold cutV
  rw [z.1, z.2, List.drop_zero, Nat.sub_zero, List.take_length]
theorem g_slL {lo hi : Option Int} (h : At H a (.lst xs)) (q : ∀ p H1, H p = none → Ex H H1 → At H1 p (.lst (cutV xs lo hi)) → Q (.ref p) H1) : rSlL K (.ref a) lo hi H Q := ⟨a, xs, rfl, h.sqL, g_new q⟩
theorem g_gsub {to ti : TE} {ts : TSet} {R : L2.St → Hp → Prop} (h : to σ H fun o H1 => ti σ H1 fun i H2 => ts o i v H2 fun H3 => R σ H3) : gSub to ti ts v σ H R := h
theorem g_gtup {n : Nat} {tg : TGs} {R : L2.St → Hp → Prop} (e : At H a (.tup xs)) (l : xs.length = n) (h : tg xs σ H R) : gTup K n tg (.ref a) σ H R := ⟨a, xs, rfl, e.sqT, l, h⟩
theorem g_gcons {g : TG} {tg : TGs} {R : L2.St → Hp → Prop} (h : g v σ H fun σ' H' => tg xs σ' H' R) : gCons g tg (v :: xs) σ H R := ⟨v, xs, rfl, h⟩
theorem g_gnil {R : L2.St → Hp → Prop} (h : R σ H) : gNil [] σ H R := ⟨rfl, h⟩
end
end PM
namespace PM
open PySem PySem.Spec PyProof.Rows L2 PMH
abbrev rAddI : R2 := rI0 fun i j => .int (i + j)
abbrev rSubI : R2 := rI0 fun i j => .int (i - j)
abbrev rMulI : R2 := rI CMul fun i j => .int (i * j)
abbrev rModI : R2 := rI (fun _ j => 0 < j) fun i j => .int (i % j)
abbrev rDivI : R2 := rI CDiv fun i j => .int (i / j)
abbrev rLtI : R2 := rI0 fun i j => .bl (decide (i < j))
abbrev rLeI : R2 := rI0 fun i j => .bl (decide (i ≤ j))
abbrev rGtI : R2 := rI0 fun i j => .bl (decide (j < i))
abbrev rGeI : R2 := rI0 fun i j => .bl (decide (j ≤ i))
end PM
/-! part PD -/
namespace PM
open PySem L2 PMH
open Evl (Ex)
/-! ### the data -/
abbrev Nm := PySem.Str
inductive Op where
  | plus | minus | times | less | same
  deriving DecidableEq
def Op.word : Op → Nm
  | .plus => "plus" | .minus => "minus" | .times => "times" | .less => "less" | .same => "same"
def Op.run : Op → Int → Int → Int
  | .plus, a, b => (a + b) % 100
  | .minus, a, b => (a - b) % 100
  | .times, a, b => a * b % 100
  | .less, a, b => if a < b then 1 else 0
  | .same, a, b => if a = b then 1 else 0
inductive Tr where
  | num (n : Int) | box (b : Nm) | load | now
  | pick (c a b : Tr) | bin (o : Op) (a b : Tr)
abbrev Bx := List (Nm × Int)
def look (b : Bx) (s : Nm) : Int := (b.lookup s).getD 0
def Tr.val (b : Bx) (load time : Int) : Tr → Int
  | .num n => n
  | .box s => look b s
  | .load => load
  | .now => time % 100
  | .pick c x y => if c.val b load time ≠ 0 then x.val b load time else y.val b load time
  | .bin o x y => o.run (x.val b load time) (y.val b load time)
def Tr.deep : Tr → Nat
  | .pick c a b => max c.deep (max a.deep b.deep) + 1
  | .bin _ a b => max a.deep b.deep + 1
  | _ => 1
def Tr.size : Tr → Nat
  | .pick c a b => 1 + c.size + a.size + b.size
  | .bin _ a b => 1 + a.size + b.size
  | _ => 1
/-- a tree that may be: names of boxes from a list, numbers 0 to 99 -/
def Tr.ok (ns : List Nm) : Tr → Prop
  | .num n => 0 ≤ n ∧ n < 100
  | .box s => s ∈ ns
  | .pick c a b => c.ok ns ∧ a.ok ns ∧ b.ok ns
  | .bin _ a b => a.ok ns ∧ b.ok ns
  | _ => True
/-- boxes' numbers -/
def BxOk (b : Bx) : Prop := ∀ p ∈ b, 0 ≤ p.2 ∧ p.2 < 100
theorem look_ok {b : Bx} (h : BxOk b) (s : Nm) : 0 ≤ look b s ∧ look b s < 100 := by
  unfold look
  cases e : b.lookup s with
  | none => exact ⟨Int.le_refl 0, by decide⟩
  | some v => exact h _ (PySem.mem_of_lookup e)
theorem Op.run_ok (o : Op) (a b : Int) : 0 ≤ o.run a b ∧ o.run a b < 100 := by
  cases o <;> simp only [Op.run]
  · omega
  · omega
  · exact ⟨Int.emod_nonneg _ (by decide), Int.emod_lt_of_pos _ (by decide)⟩
  · split <;> decide
  · split <;> decide
theorem Tr.val_ok {b : Bx} {load time : Int} {ns : List Nm} (hb : BxOk b) (hl : 0 ≤ load ∧ load < 100) : ∀ t : Tr, t.ok ns → 0 ≤ t.val b load time ∧ t.val b load time < 100
  | .num n, h => h
  | .box s, _ => look_ok hb s
  | .load, _ => hl
  | .now, _ => ⟨Int.emod_nonneg _ (by decide), Int.emod_lt_of_pos _ (by decide)⟩
  | .pick c x y, h => by
    show 0 ≤ (if c.val b load time ≠ 0 then x.val b load time else y.val b load time) ∧ (if c.val b load time ≠ 0 then x.val b load time else y.val b load time) < 100
    split
    · exact Tr.val_ok hb hl x h.2.1
    · exact Tr.val_ok hb hl y h.2.2
  | .bin o x y, _ => Op.run_ok o _ _
/-! ### how the heap bears it -/
def TrAt : Tr → V → Hp → Prop
  | .num n, v, H => ∃ a, v = .ref a ∧ At H a (.tup [.str "num", .int n])
  | .box s, v, H => ∃ a, v = .ref a ∧ At H a (.tup [.str "box", .str s])
  | .load, v, H => ∃ a, v = .ref a ∧ At H a (.tup [.str "load"])
  | .now, v, H => ∃ a, v = .ref a ∧ At H a (.tup [.str "now"])
  | .pick c x y, v, H => ∃ a u1 u2 u3, v = .ref a ∧ At H a (.tup [.str "pick", u1, u2, u3]) ∧ TrAt c u1 H ∧ TrAt x u2 H ∧ TrAt y u3 H
  | .bin o x y, v, H => ∃ a u1 u2, v = .ref a ∧ At H a (.tup [.str o.word, u1, u2]) ∧ TrAt x u1 H ∧ TrAt y u2 H
theorem TrAt.tx {H H' : Hp} (e : Tx H H') : ∀ {t : Tr} {v : V}, TrAt t v H → TrAt t v H'
  | .num _, _, ⟨a, h, k⟩ => ⟨a, h, k.tx e⟩
  | .box _, _, ⟨a, h, k⟩ => ⟨a, h, k.tx e⟩
  | .load, _, ⟨a, h, k⟩ => ⟨a, h, k.tx e⟩
  | .now, _, ⟨a, h, k⟩ => ⟨a, h, k.tx e⟩
  | .pick _ _ _, _, ⟨a, u1, u2, u3, h, k, k1, k2, k3⟩ => ⟨a, u1, u2, u3, h, k.tx e, TrAt.tx e k1, TrAt.tx e k2, TrAt.tx e k3⟩
  | .bin _ _ _, _, ⟨a, u1, u2, h, k, k1, k2⟩ => ⟨a, u1, u2, h, k.tx e, TrAt.tx e k1, TrAt.tx e k2⟩
theorem TrAt.ex {H H' : Hp} {t : Tr} {v : V} (h : TrAt t v H) (e : Ex H H') : TrAt t v H' := h.tx (Tx.ex e)
/-- a dict of boxes: its pairs -/
def bxK (b : Bx) : List (Key × V) := b.map fun p => (Sum.inr p.1, V.int p.2)
theorem valV_bxK {b : Bx} {s : Nm} (h : s ∈ b.map (·.1)) : valV (bxK b) (Sum.inr s) = some (.int (look b s)) := by
  induction b with
  | nil => cases h
  | cons p r ih =>
    obtain ⟨n, z⟩ := p
    unfold look
    by_cases e : n = s
    · subst e
      show valV ((Sum.inr n, V.int z) :: bxK r) (Sum.inr n) = _
      rw [valV_pos rfl]
      simp [List.lookup]
    · show valV ((Sum.inr n, V.int z) :: bxK r) (Sum.inr s) = _
      rw [valV_neg (fun q => e (Sum.inr.inj q))]
      have h2 : s ∈ r.map (·.1) := by
        rcases List.mem_cons.mp h with q | q
        · exact absurd q.symm e
        · exact q
      have hb : (s == n) = false := beq_eq_false_iff_ne.mpr (Ne.symm e)
      rw [ih h2]
      unfold look
      rw [List.lookup, hb]
end PM
/-! part PE -/
namespace PM
open PySem L2 PMH
open Evl (Ex)
/-! ### rows, places, mills -/
inductive Row where
  | set (b : Nm) (t : Tr) | draw (b : Nm) (m : Int) | send (g k : Nm) (sp : Int) (t : Tr) | ite (c : Tr) (x y : List Row)
structure Pl where
  name : Nm
  boxes : Bx
  rules : List (Nm × List Row)
structure Gv where
  time : Int
  place : Nm
  kind : Nm
  load : Int
structure Lt where
  time : Int
  sender : Int
  number : Int
  place : Int
  kind : Nm
  load : Int
  deriving DecidableEq
/-- the items one by one -/
def Al {α : Type} (R : α → V → Hp → Prop) : List α → List V → Hp → Prop
  | [], vs, _ => vs = []
  | x :: xs, vs, H => ∃ u us, vs = u :: us ∧ R x u H ∧ Al R xs us H
section
variable {α : Type} {R : α → V → Hp → Prop} {H H' : Hp}
theorem Al.len : ∀ {xs : List α} {vs : List V}, Al R xs vs H → vs.length = xs.length
  | [], _, h => by rw [show _ = [] from h]; rfl
  | x :: xs, _, ⟨u, us, e, _, h⟩ => by rw [e, List.length_cons, List.length_cons, Al.len h]
theorem Al.imp {S : α → V → Hp → Prop} (f : ∀ x u, R x u H → S x u H') : ∀ {xs : List α} {vs : List V}, Al R xs vs H → Al S xs vs H'
  | [], _, h => h
  | x :: xs, _, ⟨u, us, e, h, k⟩ => ⟨u, us, e, f x u h, Al.imp f k⟩
theorem Al.get : ∀ {xs : List α} {vs : List V} {i : Nat} {u : V}, Al R xs vs H → vs[i]? = some u → ∃ x, xs[i]? = some x ∧ R x u H
  | [], _, i, u, h, e => by rw [show _ = [] from h] at e; simp at e
  | x :: xs, _, 0, u, ⟨v, us, e, h, k⟩, e2 => by subst e; simp at e2; subst e2; exact ⟨x, rfl, h⟩
  | x :: xs, _, i + 1, u, ⟨v, us, e, h, k⟩, e2 => by
    subst e
    obtain ⟨y, h1, h2⟩ := Al.get k (i := i) (u := u) (by simpa using e2)
    exact ⟨y, by simpa using h1, h2⟩
theorem Al.at : ∀ {xs : List α} {vs : List V} {i : Nat} {x : α}, Al R xs vs H → xs[i]? = some x → ∃ u, vs[i]? = some u ∧ R x u H
  | [], _, i, x, h, e => by simp at e
  | x :: xs, _, 0, y, ⟨v, us, e, h, k⟩, e2 => by simp at e2; subst e2 e; exact ⟨v, rfl, h⟩
  | x :: xs, _, i + 1, y, ⟨v, us, e, h, k⟩, e2 => by
    subst e
    obtain ⟨u, h1, h2⟩ := Al.at k (i := i) (x := y) (by simpa using e2)
    exact ⟨u, by simpa using h1, h2⟩
theorem Al.snoc : ∀ {xs : List α} {vs : List V} {x : α} {u : V}, Al R xs vs H → R x u H → Al R (xs ++ [x]) (vs ++ [u]) H
  | [], _, x, u, h, k => by rw [show _ = [] from h]; exact ⟨u, [], rfl, k, rfl⟩
  | y :: xs, _, x, u, ⟨v, us, e, h, k⟩, r => by subst e; exact ⟨v, us ++ [u], rfl, h, Al.snoc k r⟩
theorem Al.append : ∀ {xs ys : List α} {vs us : List V}, Al R xs vs H → Al R ys us H → Al R (xs ++ ys) (vs ++ us) H
  | [], ys, _, us, h, k => by rw [show _ = [] from h]; exact k
  | y :: xs, ys, _, us, ⟨v, vs, e, h, k⟩, r => by subst e; exact ⟨v, vs ++ us, rfl, h, Al.append k r⟩
theorem Al.take : ∀ {xs : List α} {vs : List V} (n : Nat), Al R xs vs H → Al R (xs.take n) (vs.take n) H
  | _, _, 0, _ => rfl
  | [], _, n + 1, h => by rw [show _ = [] from h]; rfl
  | y :: xs, _, n + 1, ⟨v, vs, e, h, k⟩ => by subst e; exact ⟨v, vs.take n, rfl, h, Al.take n k⟩
theorem Al.drop : ∀ {xs : List α} {vs : List V} (n : Nat), Al R xs vs H → Al R (xs.drop n) (vs.drop n) H
  | _, _, 0, h => h
  | [], _, n + 1, h => by rw [show _ = [] from h]; rfl
  | y :: xs, _, n + 1, ⟨v, vs, e, h, k⟩ => by subst e; exact Al.drop n k
theorem Al.map {β : Type} {S : β → V → Hp → Prop} {f : α → β} (g : ∀ x u, R x u H → S (f x) u H) : ∀ {xs : List α} {vs : List V}, Al R xs vs H → Al S (xs.map f) vs H
  | [], _, h => h
  | x :: xs, _, ⟨u, us, e, h, k⟩ => ⟨u, us, e, g x u h, Al.map g k⟩
theorem Al.mem : ∀ {xs : List α} {vs : List V} {u : V}, Al R xs vs H → u ∈ vs → ∃ x ∈ xs, R x u H
  | [], _, u, h, m => by rw [show _ = [] from h] at m; cases m
  | x :: xs, _, u, ⟨v, vs, e, h, k⟩, m => by
    subst e
    rcases List.mem_cons.mp m with rfl | m
    · exact ⟨x, List.mem_cons_self, h⟩
    · obtain ⟨y, h1, h2⟩ := Al.mem k m
      exact ⟨y, List.mem_cons_of_mem _ h1, h2⟩
/-- items that are told by their value -/
theorem al_eq {f : α → V} : ∀ (xs : List α), Al (fun x u _ => u = f x) xs (xs.map f) H
  | [] => rfl
  | x :: xs => ⟨f x, xs.map f, rfl, rfl, al_eq xs⟩
theorem al_id : ∀ (xs : List V), Al (fun x u _ => u = x) xs xs H
  | [] => rfl
  | x :: xs => ⟨x, xs, rfl, rfl, al_id xs⟩
theorem al_eq_of {f : α → V} : ∀ {xs : List α} {vs : List V}, Al (fun x u _ => u = f x) xs vs H → vs = xs.map f
  | [], _, h => h
  | x :: xs, _, ⟨u, us, e, h, k⟩ => by rw [e, h, al_eq_of k]; rfl
end
mutual
def RwAt : Row → V → Hp → Prop
  | .set b t, v, H => ∃ a u, v = .ref a ∧ At H a (.tup [.str "set", .str b, u]) ∧ TrAt t u H
  | .draw b m, v, H => ∃ a, v = .ref a ∧ At H a (.tup [.str "draw", .str b, .int m])
  | .send g k s t, v, H => ∃ a u, v = .ref a ∧ At H a (.tup [.str "send", .str g, .str k, .int s, u]) ∧ TrAt t u H
  | .ite c x y, v, H => ∃ a u p q ps qs, v = .ref a ∧ At H a (.tup [.str "if", u, .ref p, .ref q]) ∧ TrAt c u H ∧ At H p (.tup ps) ∧ RwsAt x ps H ∧ At H q (.tup qs) ∧ RwsAt y qs H
def RwsAt : List Row → List V → Hp → Prop
  | [], vs, _ => vs = []
  | r :: rs, vs, H => ∃ u us, vs = u :: us ∧ RwAt r u H ∧ RwsAt rs us H
end
mutual
theorem RwAt.tx {H H' : Hp} (e : Tx H H') : ∀ (r : Row) (v : V), RwAt r v H → RwAt r v H'
  | .set b t, v, h => by
    unfold RwAt at h ⊢
    obtain ⟨a, u, h1, h2, h3⟩ := h
    exact ⟨a, u, h1, h2.tx e, h3.tx e⟩
  | .draw b m, v, h => by
    unfold RwAt at h ⊢
    obtain ⟨a, h1, h2⟩ := h
    exact ⟨a, h1, h2.tx e⟩
  | .send g k s t, v, h => by
    unfold RwAt at h ⊢
    obtain ⟨a, u, h1, h2, h3⟩ := h
    exact ⟨a, u, h1, h2.tx e, h3.tx e⟩
  | .ite c x y, v, h => by
    unfold RwAt at h ⊢
    obtain ⟨a, u, p, q, ps, qs, h1, h2, h3, h4, h5, h6, h7⟩ := h
    exact ⟨a, u, p, q, ps, qs, h1, h2.tx e, h3.tx e, h4.tx e, RwsAt.tx e x ps h5, h6.tx e, RwsAt.tx e y qs h7⟩
theorem RwsAt.tx {H H' : Hp} (e : Tx H H') : ∀ (rs : List Row) (vs : List V), RwsAt rs vs H → RwsAt rs vs H'
  | [], vs, h => by
    unfold RwsAt at h ⊢
    exact h
  | r :: rs, vs, h => by
    unfold RwsAt at h ⊢
    obtain ⟨u, us, h1, h2, h3⟩ := h
    exact ⟨u, us, h1, RwAt.tx e r u h2, RwsAt.tx e rs us h3⟩
end
theorem RwsAt.al {H : Hp} : ∀ {rs : List Row} {vs : List V}, RwsAt rs vs H → Al RwAt rs vs H
  | [], vs, h => by unfold RwsAt at h; exact h
  | r :: rs, vs, h => by
    unfold RwsAt at h
    obtain ⟨u, us, h1, h2, h3⟩ := h
    exact ⟨u, us, h1, h2, RwsAt.al h3⟩
theorem RwsAt.of {H : Hp} : ∀ {rs : List Row} {vs : List V}, Al RwAt rs vs H → RwsAt rs vs H
  | [], vs, h => by unfold RwsAt; exact h
  | r :: rs, vs, ⟨u, us, h1, h2, h3⟩ => by
    unfold RwsAt
    exact ⟨u, us, h1, h2, RwsAt.of h3⟩
/-- a tuple of such -/
def TpAt {α : Type} (R : α → V → Hp → Prop) (xs : List α) (v : V) (H : Hp) : Prop := ∃ a vs, v = .ref a ∧ At H a (.tup vs) ∧ Al R xs vs H
def PrAt (p : Nm × Int) (v : V) (H : Hp) : Prop := ∃ a, v = .ref a ∧ At H a (.tup [.str p.1, .int p.2])
def RuAt (p : Nm × List Row) (v : V) (H : Hp) : Prop := ∃ a u, v = .ref a ∧ At H a (.tup [.str p.1, u]) ∧ TpAt RwAt p.2 u H
def BxAt (b : Bx) (v : V) (H : Hp) : Prop := ∃ a vs, v = .ref a ∧ Fz vs a H ∧ Al PrAt b vs H
def PlAt (p : Pl) (v : V) (H : Hp) : Prop := ∃ a u1 u2, v = .ref a ∧ At H a (.tup [.str p.name, u1, u2]) ∧ BxAt p.boxes u1 H ∧ TpAt RuAt p.rules u2 H
def MlAt (m : List Pl) (v : V) (H : Hp) : Prop := TpAt PlAt m v H
def GvAt (g : Gv) (v : V) (H : Hp) : Prop := ∃ a, v = .ref a ∧ At H a (.tup [.int g.time, .str g.place, .str g.kind, .int g.load])
def LtAt (l : Lt) (v : V) (H : Hp) : Prop := ∃ a, v = .ref a ∧ At H a (.tup [.int l.time, .int l.sender, .int l.number, .int l.place, .str l.kind, .int l.load])
def WsAt (w : Nm × Tr) (v : V) (H : Hp) : Prop := ∃ a u, v = .ref a ∧ At H a (.tup [.str w.1, u]) ∧ TrAt w.2 u H
section
variable {H H' : Hp}
theorem TpAt.tx {α : Type} {R : α → V → Hp → Prop} (f : ∀ x u, R x u H → R x u H') (e : Tx H H') {xs : List α} {v : V} : TpAt R xs v H → TpAt R xs v H' := fun ⟨a, vs, h1, h2, h3⟩ => ⟨a, vs, h1, h2.tx e, h3.imp f⟩
theorem PrAt.tx (e : Tx H H') {p : Nm × Int} {v : V} : PrAt p v H → PrAt p v H' := fun ⟨a, h1, h2⟩ => ⟨a, h1, h2.tx e⟩
theorem RuAt.tx (e : Tx H H') {p : Nm × List Row} {v : V} : RuAt p v H → RuAt p v H' := fun ⟨a, u, h1, h2, h3⟩ => ⟨a, u, h1, h2.tx e, h3.tx (fun x u => RwAt.tx e x u) e⟩
theorem BxAt.tx (e : Tx H H') {b : Bx} {v : V} : BxAt b v H → BxAt b v H' := fun ⟨a, vs, h1, h2, h3⟩ => ⟨a, vs, h1, h2.tx e, h3.imp fun _ _ => PrAt.tx e⟩
theorem PlAt.tx (e : Tx H H') {p : Pl} {v : V} : PlAt p v H → PlAt p v H' := fun ⟨a, u1, u2, h1, h2, h3, h4⟩ => ⟨a, u1, u2, h1, h2.tx e, h3.tx e, h4.tx (fun _ _ => RuAt.tx e) e⟩
theorem MlAt.tx (e : Tx H H') {m : List Pl} {v : V} (h : MlAt m v H) : MlAt m v H' := TpAt.tx (fun _ _ => PlAt.tx e) e h
theorem GvAt.tx (e : Tx H H') {g : Gv} {v : V} : GvAt g v H → GvAt g v H' := fun ⟨a, h1, h2⟩ => ⟨a, h1, h2.tx e⟩
theorem LtAt.tx (e : Tx H H') {l : Lt} {v : V} : LtAt l v H → LtAt l v H' := fun ⟨a, h1, h2⟩ => ⟨a, h1, h2.tx e⟩
theorem WsAt.tx (e : Tx H H') {w : Nm × Tr} {v : V} : WsAt w v H → WsAt w v H' := fun ⟨a, u, h1, h2, h3⟩ => ⟨a, u, h1, h2.tx e, h3.tx e⟩
end
/-! ### what may be -/
mutual
def Row.cnt : Row → Nat
  | .ite _ x y => 1 + (Row.cnts x + Row.cnts y)
  | _ => 1
def Row.cnts : List Row → Nat
  | [] => 0
  | r :: rs => Row.cnt r + Row.cnts rs
end
mutual
def Row.deep : Row → Nat
  | .ite _ x y => max (Row.deeps x) (Row.deeps y) + 1
  | _ => 1
def Row.deeps : List Row → Nat
  | [] => 0
  | r :: rs => max (Row.deep r) (Row.deeps rs)
end
def TrOk (bs : List Nm) (t : Tr) : Prop := t.ok bs ∧ t.deep ≤ 3 ∧ t.size ≤ 30
def kinds : List Nm := ["go", "do", "on", "off"]
mutual
def Row.ok (bs ps : List Nm) : Row → Prop
  | .set b t => b ∈ bs ∧ TrOk bs t
  | .draw b m => b ∈ bs ∧ 2 ≤ m ∧ m ≤ 4
  | .send g k s t => g ∈ ps ∧ k ∈ kinds ∧ 1 ≤ s ∧ s ≤ 20 ∧ TrOk bs t
  | .ite c x y => TrOk bs c ∧ Row.oks bs ps x ∧ Row.oks bs ps y
def Row.oks (bs ps : List Nm) : List Row → Prop
  | [] => True
  | r :: rs => Row.ok bs ps r ∧ Row.oks bs ps rs
end
/-- the names that are used -/
def nmsP : List Nm := ["a", "b", "c", "d", "x", "ab", "go"]
def nmsB : List Nm := ["x", "y", "loads", "bx", "go"]
structure PlOk (ps : List Nm) (p : Pl) : Prop where
  name : p.name ∈ nmsP
  boxes : ∀ q ∈ p.boxes, q.1 ∈ nmsB ∧ 0 ≤ q.2 ∧ q.2 < 100
  nd : (p.boxes.map (·.1)).Nodup
  few : p.boxes.length ≤ 3
  rules : ∀ q ∈ p.rules, q.1 ∈ kinds ∧ Row.oks (p.boxes.map (·.1)) ps q.2 ∧ Row.deeps q.2 ≤ 3 ∧ Row.cnts q.2 ≤ 12 ∧ q.2.length ≤ 3
  rnd : (p.rules.map (·.1)).Nodup
  rfew : p.rules.length ≤ 3
def namesOf (m : List Pl) : List Nm := m.map (·.name)
structure MlOk (m : List Pl) : Prop where
  one : 1 ≤ m.length
  most : m.length ≤ 4
  nd : (namesOf m).Nodup
  pl : ∀ p ∈ m, PlOk (namesOf m) p
structure GvOk (m : List Pl) (g : Gv) : Prop where
  t0 : 0 ≤ g.time
  t1 : g.time < 1000
  place : g.place ∈ namesOf m
  kind : g.kind ∈ kinds
  l0 : 0 ≤ g.load
  l1 : g.load < 100
end PM
/-! part PC -/
namespace PM
open PySem PySem.Spec PyProof.Rows L2 PMH
open Evl (Ex)
/-! ### comprehensions -/
section
variable {K : PySem.W.Frag} {g : TG} {tt : TT} {te : TE} {vs : List Nat} {σ : L2.St} {H : Hp} {Q : VK} {tl : TE} {a : Addr} {xs : List V}
/-- what is left of a comprehension when its source has come -/
def LcJ (J : It) (g : TG) (tt : TT) (te : TE) (vs : List Nat) (σ : L2.St) (Q : VK) (H1 : Hp) : Prop := tLc (fun _ H go => go J H) g tt te vs σ H1 Q
def LcT (K : PySem.W.Frag) (g : TG) (tt : TT) (te : TE) (vs : List Nat) (σ : L2.St) (Q : VK) : VK := fun x H1 => ∃ a, x = .ref a ∧ (∃ xs, SqT K H1 a xs) ∧ LcJ (Itt K a) g tt te vs σ Q H1
def LcL (K : PySem.W.Frag) (g : TG) (tt : TT) (te : TE) (vs : List Nat) (σ : L2.St) (Q : VK) : VK := fun x H1 => ∃ a, x = .ref a ∧ (∃ xs, SqL K H1 a xs) ∧ LcJ (Itl K a) g tt te vs σ Q H1
theorem g_lcT (h : tl σ H (LcT K g tt te vs σ Q)) : tLc (iTup K tl) g tt te vs σ H Q := h
theorem g_lcL (h : tl σ H (LcL K g tt te vs σ Q)) : tLc (iList K tl) g tt te vs σ H Q := h
def LcR (g : TG) (tt : TT) (te : TE) (vs : List Nat) (σ : L2.St) (Q : VK) : List V → Hp → Prop := fun us H1 => ∃ j : Int, us = [.int j] ∧ -(2 ^ 62) ≤ j ∧ j < 2 ^ 62 ∧ LcJ (Itr 0 j.toNat) g tt te vs σ Q H1
theorem g_lcR {ta : TA} (h : ta σ H (LcR g tt te vs σ Q)) : tLc (iRng1 ta) g tt te vs σ H Q := h
theorem g_yes {R : Bool → Hp → Prop} (h : R true H) : tYes σ H R := h
/-- one turn, whatever the heap did -/
abbrev LcTurn (g : TG) (tt : TT) (te : TE) (vs : List Nat) (σ : L2.St) (u : V) (H1 : Hp) (Y : VK) (N : Hp → Prop) : Prop :=
  g u (wipe σ vs) H1 fun σ2 H2 => wipe σ2 vs = wipe σ vs ∧ tt σ2 H2 fun b H3 => if b = true then te σ2 H3 Y else N H3
/-- the general way: W tells of the items walked, the list so far, the heap -/
theorem lc_genT (src : SqT K H a xs) (W : Addr → Nat → List V → Hp → Prop) (small : xs.length ≤ 100000)
    (h0 : ∀ D H1, H D = none → Ex H H1 → At H1 D (.lst []) → W D 0 [] H1) (stay : ∀ D i acc H1, W D i acc H1 → SqT K H1 a xs)
    (turn : ∀ D i u acc H1, H D = none → xs[i]? = some u → acc.length ≤ i → W D i acc H1 → At H1 D (.lst acc) → ∀ (Y : VK) (N : Hp → Prop), (∀ y H4, At H4 D (.lst acc) → W D (i + 1) (acc ++ [y]) (upd H4 D (.lst (acc ++ [y]))) → Y y H4) → (∀ H3, At H3 D (.lst acc) → W D (i + 1) acc H3 → N H3) → LcTurn g tt te vs σ u H1 Y N)
    (fin : ∀ D acc H1, H D = none → W D xs.length acc H1 → At H1 D (.lst acc) → Q (.ref D) H1) : LcT K g tt te vs σ Q (.ref a) H := by
  refine ⟨a, rfl, ⟨xs, src⟩, fun D hD => lc_tup (xs := xs) (fun i H1 => ∃ acc, acc.length ≤ i ∧ W D i acc H1 ∧ At H1 D (.lst acc)) ⟨[], Nat.le_refl _, h0 D _ hD (ex_new hD) at_new, at_new⟩ (fun i H1 _ p => ?_) (fun i x H1 hi p => ?_) (fun H1 p => ?_)⟩
  · obtain ⟨acc, _, w, _⟩ := p
    exact stay D i acc H1 w
  · obtain ⟨acc, l, w, h⟩ := p
    have hx : i < xs.length := (List.getElem?_eq_some_iff.mp hi).1
    exact turn D i x acc H1 hD hi l w h _ _ (fun y H4 q1 q2 => ⟨acc, q1, Evl.sz_lt (by omega), acc ++ [y], by rw [List.length_append]; simp; omega, q2, at_new⟩) (fun H3 q1 q2 => ⟨acc, by omega, q2, q1⟩)
  · obtain ⟨acc, _, w, h⟩ := p
    exact fin D acc H1 hD w h
theorem lc_genL (src : At H a (.lst xs)) (W : Addr → Nat → List V → Hp → Prop) (small : xs.length ≤ 100000)
    (h0 : ∀ D H1, H D = none → Ex H H1 → At H1 D (.lst []) → W D 0 [] H1) (stay : ∀ D i acc H1, W D i acc H1 → At H1 a (.lst xs))
    (turn : ∀ D i u acc H1, H D = none → xs[i]? = some u → acc.length ≤ i → W D i acc H1 → At H1 D (.lst acc) → ∀ (Y : VK) (N : Hp → Prop), (∀ y H4, At H4 D (.lst acc) → W D (i + 1) (acc ++ [y]) (upd H4 D (.lst (acc ++ [y]))) → Y y H4) → (∀ H3, At H3 D (.lst acc) → W D (i + 1) acc H3 → N H3) → LcTurn g tt te vs σ u H1 Y N)
    (fin : ∀ D acc H1, H D = none → W D xs.length acc H1 → At H1 D (.lst acc) → Q (.ref D) H1) : LcL K g tt te vs σ Q (.ref a) H := by
  refine ⟨a, rfl, ⟨xs, src.sqL⟩, fun D hD => lc_list (xs := xs) (fun i H1 => ∃ acc, acc.length ≤ i ∧ W D i acc H1 ∧ At H1 D (.lst acc)) ⟨[], Nat.le_refl _, h0 D _ hD (ex_new hD) at_new, at_new⟩ (fun i H1 _ p => ?_) (fun i x H1 hi p => ?_) (fun H1 p => ?_)⟩
  · obtain ⟨acc, _, w, _⟩ := p
    exact (stay D i acc H1 w).sqL
  · obtain ⟨acc, l, w, h⟩ := p
    have hx : i < xs.length := (List.getElem?_eq_some_iff.mp hi).1
    exact turn D i x acc H1 hD hi l w h _ _ (fun y H4 q1 q2 => ⟨acc, q1, Evl.sz_lt (by omega), acc ++ [y], by rw [List.length_append]; simp; omega, q2, at_new⟩) (fun H3 q1 q2 => ⟨acc, by omega, q2, q1⟩)
  · obtain ⟨acc, _, w, h⟩ := p
    exact fin D acc H1 hD w h
/-- over a range of n -/
theorem lc_genR {ta : TA} {lo : Int} {n : Nat} (W : Addr → Nat → List V → Hp → Prop) (small : n ≤ 100000)
    (h0 : ∀ D H1, H D = none → Ex H H1 → At H1 D (.lst []) → W D 0 [] H1)
    (turn : ∀ D i acc H1, H D = none → i < n → acc.length ≤ i → W D i acc H1 → At H1 D (.lst acc) → ∀ (Y : VK) (N : Hp → Prop), (∀ y H4, At H4 D (.lst acc) → W D (i + 1) (acc ++ [y]) (upd H4 D (.lst (acc ++ [y]))) → Y y H4) → (∀ H3, At H3 D (.lst acc) → W D (i + 1) acc H3 → N H3) → LcTurn g tt te vs σ (.int (lo + (i : Int))) H1 Y N)
    (fin : ∀ D acc H1, H D = none → W D n acc H1 → At H1 D (.lst acc) → Q (.ref D) H1) : LcJ (Itr lo n) g tt te vs σ Q H := by
  refine fun D hD => lc_range (lo := lo) (n := n) (fun i H1 => ∃ acc, acc.length ≤ i ∧ W D i acc H1 ∧ At H1 D (.lst acc)) ⟨[], Nat.le_refl _, h0 D _ hD (ex_new hD) at_new, at_new⟩ (fun i H1 hi p => ?_) (fun H1 p => ?_)
  · obtain ⟨acc, l, w, h⟩ := p
    exact turn D i acc H1 hD hi l w h _ _ (fun y H4 q1 q2 => ⟨acc, q1, Evl.sz_lt (by omega), acc ++ [y], by rw [List.length_append]; simp; omega, q2, at_new⟩) (fun H3 q1 q2 => ⟨acc, by omega, q2, q1⟩)
  · obtain ⟨acc, _, w, h⟩ := p
    exact fin D acc H1 hD w h
section
variable {α β : Type} {R : α → V → Hp → Prop} {S : β → V → Hp → Prop} {p : α → Bool} {f : α → β} {ds : List α}
/-- what a pure comprehension keeps from turn to turn -/
structure LcW (R : α → V → Hp → Prop) (S : β → V → Hp → Prop) (p : α → Bool) (f : α → β) (ds : List α) (xs : List V) (H : Hp) (i : Nat) (acc : List V) (H1 : Hp) : Prop where
  ex : Ex H H1
  al : Al S (((ds.take i).filter p).map f) acc H1
theorem tx_mut {H : Hp} {D : Addr} {ys : List V} {o : HO} (h : At H D (.lst ys)) : Tx H (upd H D o) := fun b u f e => by
  rw [upd_ne (ne_of e h (by intro z; subst z; exact f))]
  exact e
theorem take_at {ds : List α} {i : Nat} {d : α} (h : ds[i]? = some d) : ds.take (i + 1) = ds.take i ++ [d] := by
  obtain ⟨hi, e⟩ := List.getElem?_eq_some_iff.mp h
  rw [← List.take_append_getElem hi, e]
theorem LcW.step {i : Nat} {acc : List V} {H1 H4 : Hp} {D : Addr} {d : α} {y : V} (Sm : ∀ b u H1 H2, Tx H1 H2 → S b u H1 → S b u H2) (hD : H D = none) (w : LcW R S p f ds xs H i acc H1) (hd : ds[i]? = some d) (e : Ex H1 H4) (h : At H1 D (.lst acc)) (hp : p d = true) (hy : S (f d) y H4) :
    LcW R S p f ds xs H (i + 1) (acc ++ [y]) (upd H4 D (.lst (acc ++ [y]))) := by
  refine ⟨ex_upd (w.ex.trans e) hD, ?_⟩
  rw [take_at hd, List.filter_append, List.map_append, List.filter_cons_of_pos hp]
  have t : Tx H4 (upd H4 D (.lst (acc ++ [y]))) := tx_mut (h.ex e)
  exact Al.snoc (Al.imp (fun b u q => Sm b u _ _ ((Tx.ex e).trans t) q) w.al) (Sm _ _ _ _ t hy)
theorem LcW.skip {i : Nat} {acc : List V} {H1 H3 : Hp} {d : α} (Sm : ∀ b u H1 H2, Tx H1 H2 → S b u H1 → S b u H2) (w : LcW R S p f ds xs H i acc H1) (hd : ds[i]? = some d) (e : Ex H1 H3) (hp : p d = false) : LcW R S p f ds xs H (i + 1) acc H3 := by
  refine ⟨w.ex.trans e, ?_⟩
  rw [take_at hd, List.filter_append, List.map_append, List.filter_cons_of_neg (by rw [hp]; decide)]
  show Al S (_ ++ []) acc H3
  rw [List.append_nil]
  exact Al.imp (fun b u q => Sm b u _ _ (Tx.ex e) q) w.al
/-- a comprehension that makes but new things: over a tuple -/
theorem lc_pureR (src : SqT K H a xs) (sx : ∀ H1, Ex H H1 → SqT K H1 a xs) (al : Al R ds xs H) (small : ds.length ≤ 100000) (Rm : ∀ d u H1, Ex H H1 → R d u H → R d u H1) (Sm : ∀ b u H1 H2, Tx H1 H2 → S b u H1 → S b u H2)
    (turn : ∀ d ∈ ds, ∀ u H1, Ex H H1 → R d u H1 → ∀ (Y : VK) (N : Hp → Prop), (∀ y H4, Ex H1 H4 → p d = true → S (f d) y H4 → Y y H4) → (∀ H3, Ex H1 H3 → p d = false → N H3) → LcTurn g tt te vs σ u H1 Y N)
    (fin : ∀ D acc H1, H D = none → Ex H H1 → At H1 D (.lst acc) → Al S ((ds.filter p).map f) acc H1 → Q (.ref D) H1) : LcT K g tt te vs σ Q (.ref a) H := by
  have hl := al.len
  refine lc_genT src (fun _ => LcW R S p f ds xs H) (by omega) (fun D H1 _ e _ => ⟨e, rfl⟩) (fun D i acc H1 w => sx H1 w.ex) (fun D i u acc H1 hD hi _ w h Y N hY hN => ?_) (fun D acc H1 hD w h => fin D acc H1 hD w.ex h ?_)
  · obtain ⟨d, hd, r⟩ := al.get hi
    exact turn d (List.mem_of_getElem? hd) u H1 w.ex (Rm d u H1 w.ex r) Y N (fun y H4 e hp hy => hY y H4 (h.ex e) (w.step Sm hD hd e h hp hy)) (fun H3 e hp => hN H3 (h.ex e) (w.skip Sm hd e hp))
  · have q := w.al
    rw [hl, List.take_length] at q
    exact q
theorem lc_pureT (src : At H a (.tup xs)) (al : Al R ds xs H) (small : ds.length ≤ 100000) (Rm : ∀ d u H1, Ex H H1 → R d u H → R d u H1) (Sm : ∀ b u H1 H2, Tx H1 H2 → S b u H1 → S b u H2)
    (turn : ∀ d ∈ ds, ∀ u H1, Ex H H1 → R d u H1 → ∀ (Y : VK) (N : Hp → Prop), (∀ y H4, Ex H1 H4 → p d = true → S (f d) y H4 → Y y H4) → (∀ H3, Ex H1 H3 → p d = false → N H3) → LcTurn g tt te vs σ u H1 Y N)
    (fin : ∀ D acc H1, H D = none → Ex H H1 → At H1 D (.lst acc) → Al S ((ds.filter p).map f) acc H1 → Q (.ref D) H1) : LcT K g tt te vs σ Q (.ref a) H :=
  lc_pureR src.sqT (fun H1 e => (src.ex e).sqT) al small Rm Sm turn fin
/-- .. over a list -/
theorem lc_pureL (src : At H a (.lst xs)) (al : Al R ds xs H) (small : ds.length ≤ 100000) (Rm : ∀ d u H1, Ex H H1 → R d u H → R d u H1) (Sm : ∀ b u H1 H2, Tx H1 H2 → S b u H1 → S b u H2)
    (turn : ∀ d ∈ ds, ∀ u H1, Ex H H1 → R d u H1 → ∀ (Y : VK) (N : Hp → Prop), (∀ y H4, Ex H1 H4 → p d = true → S (f d) y H4 → Y y H4) → (∀ H3, Ex H1 H3 → p d = false → N H3) → LcTurn g tt te vs σ u H1 Y N)
    (fin : ∀ D acc H1, H D = none → Ex H H1 → At H1 D (.lst acc) → Al S ((ds.filter p).map f) acc H1 → Q (.ref D) H1) : LcL K g tt te vs σ Q (.ref a) H := by
  have hl := al.len
  refine lc_genL src (fun _ => LcW R S p f ds xs H) (by omega) (fun D H1 _ e _ => ⟨e, rfl⟩) (fun D i acc H1 w => src.ex w.ex) (fun D i u acc H1 hD hi _ w h Y N hY hN => ?_) (fun D acc H1 hD w h => fin D acc H1 hD w.ex h ?_)
  · obtain ⟨d, hd, r⟩ := al.get hi
    exact turn d (List.mem_of_getElem? hd) u H1 w.ex (Rm d u H1 w.ex r) Y N (fun y H4 e hp hy => hY y H4 (h.ex e) (w.step Sm hD hd e h hp hy)) (fun H3 e hp => hN H3 (h.ex e) (w.skip Sm hd e hp))
  · have q := w.al
    rw [hl, List.take_length] at q
    exact q
/-- no test, each item's value exact -/
theorem lc_mapT {h : α → V} (src : At H a (.tup xs)) (al : Al R ds xs H) (small : ds.length ≤ 100000) (Rm : ∀ d u H1, Ex H H1 → R d u H → R d u H1)
    (turn : ∀ d ∈ ds, ∀ u H1, Ex H H1 → R d u H1 → ∀ (Y : VK) (N : Hp → Prop), (∀ H4, Ex H1 H4 → Y (h d) H4) → LcTurn g tt te vs σ u H1 Y N)
    (fin : ∀ D H1, H D = none → Ex H H1 → At H1 D (.lst (ds.map h)) → Q (.ref D) H1) : LcT K g tt te vs σ Q (.ref a) H :=
  lc_pureT (S := fun b u _ => u = h b) (p := fun _ => true) (f := id) src al small Rm (fun _ _ _ _ _ q => q) (fun d m u H1 e r Y N hY _ => turn d m u H1 e r Y N fun H4 e4 => hY _ H4 e4 rfl rfl)
    (fun D acc H1 hD e hA q => fin D H1 hD e (by
      rw [List.map_id, List.filter_eq_self.mpr (fun _ _ => rfl)] at q
      rw [← al_eq_of q]
      exact hA))
theorem lc_mapF {h : α → V} (src : Fz xs a H) (al : Al R ds xs H) (small : ds.length ≤ 100000) (Rm : ∀ d u H1, Ex H H1 → R d u H → R d u H1)
    (turn : ∀ d ∈ ds, ∀ u H1, Ex H H1 → R d u H1 → ∀ (Y : VK) (N : Hp → Prop), (∀ H4, Ex H1 H4 → Y (h d) H4) → LcTurn g tt te vs σ u H1 Y N)
    (fin : ∀ D H1, H D = none → Ex H H1 → At H1 D (.lst (ds.map h)) → Q (.ref D) H1) : LcT K g tt te vs σ Q (.ref a) H :=
  lc_pureR (S := fun b u _ => u = h b) (p := fun _ => true) (f := id) src.sqT (fun H1 e => (src.tx (Tx.ex e)).sqT) al small Rm (fun _ _ _ _ _ q => q) (fun d m u H1 e r Y N hY _ => turn d m u H1 e r Y N fun H4 e4 => hY _ H4 e4 rfl rfl)
    (fun D acc H1 hD e hA q => fin D H1 hD e (by
      rw [List.map_id, List.filter_eq_self.mpr (fun _ _ => rfl)] at q
      rw [← al_eq_of q]
      exact hA))
theorem lc_mapL {h : α → V} (src : At H a (.lst xs)) (al : Al R ds xs H) (small : ds.length ≤ 100000) (Rm : ∀ d u H1, Ex H H1 → R d u H → R d u H1)
    (turn : ∀ d ∈ ds, ∀ u H1, Ex H H1 → R d u H1 → ∀ (Y : VK) (N : Hp → Prop), (∀ H4, Ex H1 H4 → Y (h d) H4) → LcTurn g tt te vs σ u H1 Y N)
    (fin : ∀ D H1, H D = none → Ex H H1 → At H1 D (.lst (ds.map h)) → Q (.ref D) H1) : LcL K g tt te vs σ Q (.ref a) H :=
  lc_pureL (S := fun b u _ => u = h b) (p := fun _ => true) (f := id) src al small Rm (fun _ _ _ _ _ q => q) (fun d m u H1 e r Y N hY _ => turn d m u H1 e r Y N fun H4 e4 => hY _ H4 e4 rfl rfl)
    (fun D acc H1 hD e hA q => fin D H1 hD e (by
      rw [List.map_id, List.filter_eq_self.mpr (fun _ _ => rfl)] at q
      rw [← al_eq_of q]
      exact hA))
end
end
/-! ### texts in lists -/
abbrev sV (ns : List Nm) : List V := ns.map V.str
theorem inV_str (z : Nm) : ∀ ns : List Nm, inV (.str z) (sV ns) = decide (z ∈ ns)
  | [] => by simp [inV]
  | n :: ns => by
    have ih := inV_str z ns
    unfold inV at ih ⊢
    simp only [List.map_cons, List.any_cons, ih]
    by_cases e : n = z
    · subst e
      simp [eqV]
    · have e2 : ¬ z = n := fun h => e h.symm
      simp [eqV, e, e2]
theorem in_yes {z : Nm} {ns : List Nm} (h : z ∈ ns) : inV (.str z) (sV ns) = true := by rw [inV_str]; exact decide_eq_true h
theorem flat_sV : ∀ ns : List Nm, (sV ns).all flatV = true
  | [] => rfl
  | _ :: ns => flat_sV ns
section
variable {K : PySem.W.Frag} {H : Hp} {Q : VK} {a : Addr} {xs : List V} {σ : L2.St}
theorem g_allT (e : At H a (.lst xs)) (h : ∀ x ∈ xs, x = .bl true) (q : Q (.bl true) H) : rAll K [.ref a] H Q := by
  refine g_all (bs := xs.map fun _ => true) ?_ ?_
  · have e2 : List.map V.bl (xs.map fun _ => true) = xs := by
      rw [List.map_map]
      conv => rhs; rw [← List.map_id xs]
      exact List.map_congr_left fun x hx => (h x hx).symm
    rw [e2]
    exact e
  · have e2 : (xs.map fun _ => true).all id = true := by simp
    rw [e2]
    exact q
theorem g_dnew (h : ∀ p H1, H p = none → Ex H H1 → At H1 p (.dK []) → Q (.ref p) H1) : tDNewK σ H Q := fun p hp => h p _ hp (ex_new hp) at_new
theorem g_sortD {kvs : List (Key × V)} {ks : List Nm} (e : At H a (.dK kvs)) (k : kvs.map (·.1) = ks.map Sum.inr) (l : ks.length < 64) (q : ∀ p H1 ys, H p = none → Ex H H1 → ys.Perm ks → At H1 p (.lst (sV ys)) → Q (.ref p) H1) : rSortD [.ref a] H Q :=
  ⟨a, kvs, ks, rfl, .inl e, k, l, fun ys p hp _ hn => q p _ ys hn (ex_new hn) hp at_new⟩
end
theorem all_yes {α : Type} (ds : List α) : ∀ x ∈ ds.map (fun _ => V.bl true), x = V.bl true := fun x h => by
  obtain ⟨_, _, e⟩ := List.mem_map.mp h
  exact e.symm
theorem sV_map {α : Type} (f : α → Nm) (ds : List α) : sV (ds.map f) = ds.map fun d => V.str (f d) := by
  unfold sV
  rw [List.map_map]
  rfl
theorem at_nat {α : Type} {xs : List α} {i : Nat} {v : α} (h : xs[i]? = some v) : atI xs (i : Int) = some v := by
  have hl := (List.getElem?_eq_some_iff.mp h).1
  unfold atI ixN
  rw [if_pos (by omega), if_pos (by omega)]
  simpa using h
section
variable {K : PySem.W.Frag} {H : Hp} {Q : VK} {a : Addr} {xs : List V} {σ : L2.St} {ta tv : TE} {f : Str} {nx bk ct : L2.St → Hp → Prop} {rt : VK}
theorem g_sfld (h : tv σ H fun y H1 => ta σ H1 fun x H2 => ∃ a C dx fs, x = .ref a ∧ H2 a = some (.ins C dx fs) ∧ Cls K C ∧ NoAttr K C f ∧ fs.length < 1000 ∧ nx σ (upd H2 a (.ins C dx (putF f y fs)))) : sFld K ta tv f ⟨nx, rt, bk, ct⟩ σ H := h
theorem g_sfldA {C dx : Addr} {fs : List (Str × V)} {y : V} {R : Hp → Prop} (h : At H a (.ins C dx fs)) (c : Cls K C) (n : NoAttr K C f) (l : fs.length < 1000) (q : R (upd H a (.ins C dx (putF f y fs)))) :
    ∃ a' C dx fs, V.ref a = .ref a' ∧ H a' = some (.ins C dx fs) ∧ Cls K C ∧ NoAttr K C f ∧ fs.length < 1000 ∧ R (upd H a' (.ins C dx (putF f y fs))) := ⟨a, C, dx, fs, rfl, h, c, n, l, q⟩
theorem g_tupN (l : xs.length ≤ 1000) (h : ∀ p H1, H p = none → Ex H H1 → At H1 p (.tup xs) → Q (.ref p) H1) : NewT Q xs H := ⟨Evl.sz_of (by omega), g_new h⟩
theorem g_lstN (l : xs.length ≤ 1000) (h : ∀ p H1, H p = none → Ex H H1 → At H1 p (.lst xs) → Q (.ref p) H1) : NewL Q xs H := ⟨Evl.sz_of (by omega), g_new h⟩
end
/-- a list or a tuple of these -/
def SqAt (xs : List V) (a : Addr) (H : Hp) : Prop := At H a (.lst xs) ∨ At H a (.tup xs)
theorem SqAt.ex {xs : List V} {a : Addr} {H H' : Hp} (h : SqAt xs a H) (e : Ex H H') : SqAt xs a H' := h.imp (·.ex e) (·.ex e)
section
variable {K : PySem.W.Frag} {H : Hp} {Q : VK} {a tp : Addr} {xs : List V} {σ : L2.St}
theorem g_lnX (h : SqAt xs a H) (q : Q (.int xs.length) H) : Evl.rLenS K [.ref a] H Q := h.elim (fun h => g_lnL h q) fun h => g_lnT h q
theorem g_isiLT (h : SqAt xs a H) (ht : At H tp (.tup [.ty "list", .ty "tuple"])) (q : Q (.bl true) H) : rIsiT K [.ref a, .ref tp] H Q := by
  have pr : Paired ClsV [.ty "list", .ty "tuple"] [.type "list", .type "tuple"] := .cons (.ty _) (.cons (.ty _) .nil)
  rcases h with h | h
  · exact ⟨_, tp, _, .type "list", _, true, rfl, ht, pr, .base (.lst h), kitAny_cons kt_ll (fun z => by cases z) (fun _ => rfl), q⟩
  · exact ⟨_, tp, _, .type "tuple", _, true, rfl, ht, pr, .base (.tup h), kitAny_cons (b := false) (kit_ty (by decide +kernel)) (fun _ => kitAny_cons kt_tt (fun z => by cases z) (fun _ => rfl)) (fun z => by cases z), q⟩
theorem g_ixX {i : Int} {v : V} (h : SqAt xs a H) (l : atI xs i = some v) (q : Q v H) : rIx K (.ref a) (.int i) H Q := h.elim (fun h => .inl (g_ixL h l q)) fun h => .inr (.inl (g_ixT h l q))
theorem g_idxN {ns : List Nm} {z : Nm} {j : Nat} (e : At H a (.lst (sV ns))) (h : ns[j]? = some z) (n : ns.Nodup) (q : Q (.int (j : Nat)) H) : rIndex K (.ref a) [.str z] H Q := by
  refine ⟨a, sV ns, .str z, j, .str z, rfl, rfl, e.sqL, rfl, flat_sV _, by unfold sV; rw [List.getElem?_map, h]; rfl, by simp [eqV], fun m z' hm hz => ?_, q⟩
  unfold sV at hz
  rw [List.getElem?_map] at hz
  obtain ⟨y, hy, rfl⟩ := Option.map_eq_some_iff.mp hz
  have ne : y ≠ z := fun ey => by
    subst ey
    obtain ⟨h1, h2⟩ := List.getElem?_eq_some_iff.mp h
    obtain ⟨h3, h4⟩ := List.getElem?_eq_some_iff.mp hy
    exact absurd (h4.trans h2.symm) (List.pairwise_iff_getElem.mp n m j h3 h1 hm)
  simp [eqV, ne]
end
theorem names_at {m : List Pl} {i : Nat} {pl : Pl} (h : m[i]? = some pl) : (namesOf m)[i]? = some pl.name := by
  unfold namesOf
  rw [List.getElem?_map, h]
  rfl
theorem names_mem {m : List Pl} {n : Nm} (h : n ∈ namesOf m) : ∃ (i : Nat) (pl : Pl), m[i]? = some pl ∧ pl.name = n := by
  obtain ⟨pl, hp, e⟩ := List.mem_map.mp h
  obtain ⟨i, hi⟩ := List.mem_iff_getElem?.mp hp
  exact ⟨i, pl, hi, e⟩
theorem kp_tx {F : Addr} {H H' : Hp} {o : HO} (k : Kp [F] H H') (h : At H F o) (n : ¬ Fx o := by intro z; exact z) : Tx H H' := tx_kp k (by
  intro a m u f e
  simp only [List.mem_singleton] at m
  subst m
  rw [h] at e
  cases e
  exact n f)
theorem kp_lst {F a : Addr} {H H' : Hp} {o u : HO} (k : Kp [F] H H') (h : At H F o) (ha : At H a u) (n : u ≠ o := by intro z; cases z) : At H' a u := ha.kp k (by
  simp only [List.mem_singleton]
  exact ha.ne h n)
section
variable {K : PySem.W.Frag} {H : Hp} {Q : VK} {a : Addr} {xs : List V} {σ : L2.St}
theorem g_lnF (h : Fz xs a H) (q : Q (.int xs.length) H) : Evl.rLenS K [.ref a] H Q := ⟨a, xs, rfl, .inr h.sqT, q⟩
theorem g_listF (h : Fz xs a H) (q : ∀ p H1, H p = none → Ex H H1 → At H1 p (.lst xs) → Q (.ref p) H1) : Evl.rListS K [.ref a] H Q := ⟨a, xs, rfl, .inr h.sqT, g_new q⟩
theorem g_isTupF (e : Fz xs a H) (h : Q (.bl true) H) : rIsi K [.ref a, .ty "tuple"] H Q := by
  obtain ⟨o, _, e⟩ := e
  exact g_isi (.ty _) (.fTuple e) kt_tt h
end
end PM
/-! part F1 -/
namespace PM
open PySem PySem.Spec PyProof.Rows L2 PMH
open Evl (Ex)

local macro_rules | `(tactic| walk_at "ex") => `(tactic| first
  | with_reducible assumption
  | with_reducible exact Evl.Ex.refl _
  | (refine Evl.Ex.trans ?_ (by with_reducible assumption); walk_at "ex"))
local macro_rules | `(tactic| walk_at "hx") => `(tactic| first
  | with_reducible assumption
  | (refine At.ex (by with_reducible assumption) ?_; walk_at "ex")
  | (refine Fz.tx (by with_reducible assumption) ?_; walk_at "tx")
  | (refine TrAt.ex (by with_reducible assumption) ?_; walk_at "ex")
  | (refine MlAt.tx ?_ (by with_reducible assumption); walk_at "tx")
  | (refine PlAt.tx ?_ (by with_reducible assumption); walk_at "tx")
  | (refine LtAt.tx ?_ (by with_reducible assumption); walk_at "tx")
  | (refine GvAt.tx ?_ (by with_reducible assumption); walk_at "tx")
  | (refine WsAt.tx ?_ (by with_reducible assumption); walk_at "tx")
  | (refine RwAt.tx ?_ _ _ (by with_reducible assumption); walk_at "tx")
  | (refine RwsAt.tx ?_ _ _ (by with_reducible assumption); walk_at "tx")
  | (refine RuAt.tx ?_ (by with_reducible assumption); walk_at "tx")
  | (refine PrAt.tx ?_ (by with_reducible assumption); walk_at "tx"))
local macro_rules | `(tactic| walk_at "num") => `(tactic| first
  | with_reducible assumption
  | decide
  | exact Or.inl ⟨by omega, by omega⟩
  | exact Or.inr ⟨by omega, by omega⟩
  | (refine ⟨?_, ?_⟩ <;> omega)
  | (show (0 : Int) < _; omega))
local macro_rules | `(tactic| walk_at "tx") => `(tactic| first
  | with_reducible assumption
  | (refine Tx.ex ?_; walk_at "ex"))
local macro_rules | `(tactic| walk_at "sz") => `(tactic| first
  | with_reducible assumption
  | omega
  | (refine Evl.sz_of ?_; omega)
  | (refine Evl.sz_lt ?_; omega))
local macro_rules | `(tactic| walk_at "fl") => `(tactic| first
  | rfl
  | decide +kernel)

/-! ### names -/
def letters : Nm := "abcdefghijklmnopqrstuvwxyz"
def nms : List Nm := nmsP ++ nmsB ++ kinds
theorem nm_ok : ∀ z ∈ nms, (1 : Int) ≤ (z.length : Int) ∧ (z.length : Int) ≤ 6 ∧ Txt.stripChars z letters = "" ∧ inV (.str z) [.str "load", .str "now"] = false := by decide +kernel
def Tr.word : Tr → Nm
  | .num _ => "num" | .box _ => "box" | .load => "load" | .now => "now" | .pick _ _ _ => "pick" | .bin o _ _ => o.word
def Tr.ar : Tr → Int
  | .pick _ _ _ => 3 | .bin _ _ _ => 2 | _ => 0
theorem num_pick (n : Int) : ¬ (Tr.num n).word = "pick" := by
  show ¬ (("num" : Nm) = "pick")
  decide +kernel
theorem op_nums (o : Op) : ¬ o.word = "num" := by cases o <;> decide +kernel
theorem op_box (o : Op) : ¬ o.word = "box" := by cases o <;> decide +kernel
theorem op_load (o : Op) : ¬ o.word = "load" := by cases o <;> decide +kernel
theorem op_now (o : Op) : ¬ o.word = "now" := by cases o <;> decide +kernel
theorem op_pick (o : Op) : ¬ o.word = "pick" := by cases o <;> decide +kernel
section
variable {P : Program} {w : World} {K : PySem.W.Frag} {mg : Str → Option Value} {base : Heap}
theorem op_sgn (T : TX w K mg) (o : Op) : ∃ u, PySem.W.nsIn K (He.ga K "SIGNS") o.word = some (some u) := by
  cases o
  · exact T.sgn_in (q := ("plus", .str "+")) (by simp [sgn])
  · exact T.sgn_in (q := ("minus", .str "-")) (by simp [sgn])
  · exact T.sgn_in (q := ("times", .str "*")) (by simp [sgn])
  · exact T.sgn_in (q := ("less", .str "<")) (by simp [sgn])
  · exact T.sgn_in (q := ("same", .str "=")) (by simp [sgn])
/-! ### is_name -/
abbrev N_is_name : List Str := ["thing"]
theorem sc_is_name : FnScope N_is_name ["thing"] (defScope s_is_name) := ⟨rfl, rfl, rfl, by decide +kernel, rfl, by decide +kernel, by decide +kernel⟩
def sp_is_name : Sp := fun vs H Q _ => ∃ z : Nm, vs = [.str z] ∧ z ∈ nms ∧ Q (.bl true) H
theorem ok_is_name (T : TX w K mg) : Fn P w K mg base CX0 1 "is_name" ["thing"] sp_is_name := by
  obtain ⟨fd, F⟩ := T.d_is_name
  refine mk_fn F T.g_is_name sc_is_name (fun vs H Q E h => ?_) (fun _ _ _ _ _ _ us hl => match us, hl with | [_], _ => rfl) (fun cdv A outer s H vs Q E hr h => ?_)
  · obtain ⟨z, rfl, _⟩ := h
    rfl
  · obtain ⟨z, rfl, hz, hq⟩ := h
    have hu := hu_of hr
    obtain ⟨h1, h2, h3, h4⟩ := nm_ok z hz
    refine ⟨(tSeq (tIfS (tOr (tNot (tB (tCB (rIsi K) (tCons (tVar 0) (tCons (tC (.ty "str")) tNil))))) (tNot (tTest (tChain rLeI rLeI (tC (.int 1)) (tCB rLenStr (tCons (tVar 0) tNil)) (tC (.int 6)))))) (tRet (tC (.bl false))) tNext) (tRet (tAndV (tOp rEq (tBM K "str" rStrip (tVar 0) (tCons (tC (.str "abcdefghijklmnopqrstuvwxyz")) tNil)) (tC (.str ""))) (tOp (rIn K true) (tVar 0) (tC (.ref (He.ga K "KEPT"))))))),
      (pss_cons (ps_if (PW.pt (pw_or (pt_not (pt_val (pe_callB call_isi (by rfl) T.b_isinstance bt_isinstance (pa_cons (pv 0) (pa_cons (pe_bltn (v := .ty "str") (by rfl) T.b_str bt_str rfl) pa_nil))))) (pw_or1 (pt_not (pt_chain op_le op_le pe_int (pe_callB cl_lenStr (by rfl) T.b_len bt_len (pa_cons (pv 0) pa_nil)) (pe_gint (by rfl) T.k_LONGEST)))))) (pss_one (ps_ret pe_bl)) pss_nil)
      (pss_one (ps_ret (pe_and (pe_cmpR op_eq (pe_bm PySem.F.plainAttrs_str PySem.F.slot_str_strip PySem.F.type_str_strip mq_strip (pv 0) (pa_cons (pe_gstr (by rfl) T.k_LETTERS) pa_nil)) pe_str (nomark _)) (pe_one (pe_cmpR op_notIn_seq (pv 0) (pe_gref (by rfl) T.g_KEPT) (by rfl))))))), ?_⟩
    refine g_start (σ' := [some _]) rfl ?_
    refine g_seq (g_ifs (g_or (g_not (g_tB (g_cb (g_cons (g_v0 (g_cons (g_c (g_nil (g_isStr (g_k (g_iteF (g_not (g_tst (g_chain (g_c (g_cb (g_cons (g_v0 (g_nil (g_lenStr (by walk_at "sz") (g_I0 (g_k (g_ifD1 (h1) (g_c (g_I0 (g_k (g_ifN0 (h2) (g_next (g_ret (g_andV (g_op (g_bm (g_v0 (And.intro rfl (g_cons (g_c (g_nil ?_)))))))))))))))))))))))))))))))))))))))
    refine ⟨z, _, rfl, rfl, by walk_at "sz", ?_⟩
    refine g_c (g_eqS (g_k (g_ifD1 (h3) (g_op (g_v0 (g_c ?_))))))
    refine g_inT (T.kept _) rfl rfl ?_
    show Q (.bl (!inV (.str z) [.str "load", .str "now"])) H
    rw [h4]
    exact hq
/-! ### is_number -/
abbrev N_is_number : List Str := ["thing"]
theorem sc_is_number : FnScope N_is_number ["thing"] (defScope s_is_number) := ⟨rfl, rfl, rfl, by decide +kernel, rfl, by decide +kernel, by decide +kernel⟩
def sp_is_number : Sp := fun vs H Q _ => ∃ n : Int, vs = [.int n] ∧ 0 ≤ n ∧ n < 100 ∧ Q (.bl true) H
theorem ok_is_number (T : TX w K mg) : Fn P w K mg base CX0 1 "is_number" ["thing"] sp_is_number := by
  obtain ⟨fd, F⟩ := T.d_is_number
  refine mk_fn F T.g_is_number sc_is_number (fun vs H Q E h => ?_) (fun _ _ _ _ _ _ us hl => match us, hl with | [_], _ => rfl) (fun cdv A outer s H vs Q E hr h => ?_)
  · obtain ⟨z, rfl, _⟩ := h
    rfl
  · obtain ⟨n, rfl, h1, h2, hq⟩ := h
    refine ⟨(tRet (tAndV (tCB (rIsi K) (tCons (tVar 0) (tCons (tC (.ty "int")) tNil))) (tAndV (tNotV (tCB (rIsi K) (tCons (tVar 0) (tCons (tC (.ty "bool")) tNil)))) (tChain rLeI rLtI (tC (.int 0)) (tVar 0) (tC (.int 100)))))),
      (pss_one (ps_ret (pe_and (pe_callB call_isi (by rfl) T.b_isinstance bt_isinstance (pa_cons (pv 0) (pa_cons (pe_bltn (v := .ty "int") (by rfl) T.b_int bt_int rfl) pa_nil))) (pe_and (pe_not (pe_callB call_isi (by rfl) T.b_isinstance bt_isinstance (pa_cons (pv 0) (pa_cons (pe_bltn (v := .ty "bool") (by rfl) T.b_bool bt_bool rfl) pa_nil)))) (pe_one (pe_chain op_le op_lt pe_int (pv 0) (pe_gint (by rfl) T.k_ROUND))))))), ?_⟩
    refine g_start (σ' := [some _]) rfl ?_
    refine g_ret (g_andV (g_cb (g_cons (g_v0 (g_cons (g_c (g_nil (g_isInt (g_k (g_iteT (g_andV (g_notV (g_cb (g_cons (g_v0 (g_cons (g_c (g_nil (g_isIntBool (g_k (g_k (g_iteT (g_chain (g_c (g_v0 (g_I0 (g_k (g_ifD1 (h1) (g_c (g_I0 ?_))))))))))))))))))))))))))))))
    rw [decide_eq_true h2]
    exact hq
/-! ### trees_in -/
abbrev N_trees_in : List Str := ["word"]
theorem sc_trees_in : FnScope N_trees_in ["word"] (defScope s_trees_in) := ⟨rfl, rfl, rfl, by decide +kernel, rfl, by decide +kernel, by decide +kernel⟩
def sp_trees_in : Sp := fun vs H Q _ => ∃ t : Tr, vs = [.str t.word] ∧ (∀ b, t ≠ .box b) ∧ Q (.int t.ar) H
theorem ok_trees_in (T : TX w K mg) : Fn P w K mg base CX0 1 "trees_in" ["word"] sp_trees_in := by
  obtain ⟨fd, F⟩ := T.d_trees_in
  refine mk_fn F T.g_trees_in sc_trees_in (fun vs H Q E h => ?_) (fun _ _ _ _ _ _ us hl => match us, hl with | [_], _ => rfl) (fun cdv A outer s H vs Q E hr h => ?_)
  · obtain ⟨z, rfl, _⟩ := h
    rfl
  · obtain ⟨t, rfl, hb, hq⟩ := h
    refine ⟨(tSeq (tIfS (tTest (tOp rEq (tVar 0) (tC (.str "pick")))) (tRet (tC (.int 3))) tNext) (tRet (tOp rMulI (tC (.int 2)) (tCB rInt1 (tCons (tOp (rInKd K (He.ga K "SIGNS")) (tVar 0) (tC (.ref (He.ga K "SIGNS")))) tNil))))),
      (pss_cons (ps_if (pt_cmpR op_eq (pv 0) pe_str (nomark _)) (pss_one (ps_ret pe_int)) pss_nil)
      (pss_one (ps_ret (pe_op op_mul pe_int (pe_callTy cl_int (by rfl) T.b_int bt_int (pa_cons (pe_cmpR (oq_inKd T.tab) (pv 0) (pe_gref (by rfl) T.g_SIGNS) (by rfl)) pa_nil)))))), ?_⟩
    refine g_start (σ' := [some _]) rfl ?_
    cases t with
    | box b => exact absurd rfl (hb b)
    | num n =>
      refine g_seq (g_ifs (g_tst (g_op (g_v0 (g_c (g_eqS (g_k (g_ifD0 (num_pick n) (g_next (g_ret (g_op (g_c (g_cb (g_cons (g_op (g_v0 (g_c ?_)))))))))))))))))
      refine g_inKd T.sgn_num ?_
      refine g_nil (g_intB (g_I (by walk_at "num") ?_))
      exact hq
    | load =>
      refine g_seq (g_ifs (g_tst (g_op (g_v0 (g_c (g_eqS (g_k (g_ifD0 (by decide +kernel) (g_next (g_ret (g_op (g_c (g_cb (g_cons (g_op (g_v0 (g_c ?_)))))))))))))))))
      refine g_inKd T.sgn_load ?_
      refine g_nil (g_intB (g_I (by walk_at "num") ?_))
      exact hq
    | now =>
      refine g_seq (g_ifs (g_tst (g_op (g_v0 (g_c (g_eqS (g_k (g_ifD0 (by decide +kernel) (g_next (g_ret (g_op (g_c (g_cb (g_cons (g_op (g_v0 (g_c ?_)))))))))))))))))
      refine g_inKd T.sgn_now ?_
      refine g_nil (g_intB (g_I (by walk_at "num") ?_))
      exact hq
    | pick x y z =>
      refine g_seq (g_ifs (g_tst (g_op (g_v0 (g_c (g_eqS (g_k (g_ifD1 rfl (g_ret (g_c ?_))))))))))
      exact hq
    | bin o x y =>
      refine g_seq (g_ifs (g_tst (g_op (g_v0 (g_c (g_eqS (g_k (g_ifD0 (op_pick o) (g_next (g_ret (g_op (g_c (g_cb (g_cons (g_op (g_v0 (g_c ?_)))))))))))))))))
      obtain ⟨u, e⟩ := op_sgn T o
      refine g_inKd e ?_
      refine g_nil (g_intB (g_I (by walk_at "num") ?_))
      exact hq
/-! ### reckoned -/
abbrev N_reckoned : List Str := ["word", "one", "other"]
theorem sc_reckoned : FnScope N_reckoned ["word", "one", "other"] (defScope s_reckoned) := ⟨rfl, rfl, rfl, by decide +kernel, rfl, by decide +kernel, by decide +kernel⟩
def sp_reckoned : Sp := fun vs H Q _ => ∃ (o : Op) (x y : Int), vs = [.str o.word, .int x, .int y] ∧ (0 ≤ x ∧ x < 100) ∧ Q (.int (o.run x y)) H
theorem ok_reckoned (T : TX w K mg) : Fn P w K mg base CX0 1 "reckoned" ["word", "one", "other"] sp_reckoned := by
  obtain ⟨fd, F⟩ := T.d_reckoned
  refine mk_fn F T.g_reckoned sc_reckoned (fun vs H Q E h => ?_) (fun _ _ _ _ _ _ us hl => match us, hl with | [_, _, _], _ => rfl) (fun cdv A outer s H vs Q E hr h => ?_)
  · obtain ⟨o, x, y, rfl, _⟩ := h
    rfl
  · obtain ⟨o, x, y, rfl, hx, hq⟩ := h
    refine ⟨(tSeq (tIfS (tTest (tOp rEq (tVar 0) (tC (.str "plus")))) (tRet (tOp rModI (tOp rAddI (tVar 1) (tVar 2)) (tC (.int 100)))) tNext) (tSeq (tIfS (tTest (tOp rEq (tVar 0) (tC (.str "minus")))) (tRet (tOp rModI (tOp rSubI (tVar 1) (tVar 2)) (tC (.int 100)))) tNext) (tSeq (tIfS (tTest (tOp rEq (tVar 0) (tC (.str "times")))) (tRet (tOp rModI (tOp rMulI (tVar 1) (tVar 2)) (tC (.int 100)))) tNext) (tSeq (tIfS (tTest (tOp rEq (tVar 0) (tC (.str "less")))) (tRet (tCB rInt1 (tCons (tOp rLtI (tVar 1) (tVar 2)) tNil))) tNext) (tRet (tCB rInt1 (tCons (tOp rEq (tVar 1) (tVar 2)) tNil))))))),
      (pss_cons (ps_if (pt_cmpR op_eq (pv 0) pe_str (nomark _)) (pss_one (ps_ret (pe_op op_mod (pe_op op_add (pv 1) (pv 2)) (pe_gint (by rfl) T.k_ROUND)))) pss_nil)
      (pss_cons (ps_if (pt_cmpR op_eq (pv 0) pe_str (nomark _)) (pss_one (ps_ret (pe_op op_mod (pe_op op_sub (pv 1) (pv 2)) (pe_gint (by rfl) T.k_ROUND)))) pss_nil)
      (pss_cons (ps_if (pt_cmpR op_eq (pv 0) pe_str (nomark _)) (pss_one (ps_ret (pe_op op_mod (pe_op op_mul (pv 1) (pv 2)) (pe_gint (by rfl) T.k_ROUND)))) pss_nil)
      (pss_cons (ps_if (pt_cmpR op_eq (pv 0) pe_str (nomark _)) (pss_one (ps_ret (pe_callTy cl_int (by rfl) T.b_int bt_int (pa_cons (pe_cmpR op_lt (pv 1) (pv 2) (nomark _)) pa_nil)))) pss_nil)
      (pss_one (ps_ret (pe_callTy cl_int (by rfl) T.b_int bt_int (pa_cons (pe_cmpR op_eq (pv 1) (pv 2) (nomark _)) pa_nil)))))))), ?_⟩
    refine g_start (σ' := [some _, some _, some _]) rfl ?_
    cases o with
    | plus =>
      refine g_seq (g_ifs (g_tst (g_op (g_v0 (g_c (g_eqS (g_k (g_ifD1 rfl (g_ret (g_op (g_op (g_v1 (g_v2 (g_I0 (g_c (g_I (by walk_at "num") ?_))))))))))))))))
      exact hq
    | minus =>
      refine g_seq (g_ifs (g_tst (g_op (g_v0 (g_c (g_eqS (g_k (g_ifD0 (by decide +kernel) (g_next (g_seq (g_ifs (g_tst (g_op (g_v0 (g_c (g_eqS (g_k (g_ifD1 rfl (g_ret (g_op (g_op (g_v1 (g_v2 (g_I0 (g_c (g_I (by walk_at "num") ?_))))))))))))))))))))))))))
      exact hq
    | times =>
      refine g_seq (g_ifs (g_tst (g_op (g_v0 (g_c (g_eqS (g_k (g_ifD0 (by decide +kernel) (g_next (g_seq (g_ifs (g_tst (g_op (g_v0 (g_c (g_eqS (g_k (g_ifD0 (by decide +kernel) (g_next (g_seq (g_ifs (g_tst (g_op (g_v0 (g_c (g_eqS (g_k (g_ifD1 rfl (g_ret (g_op (g_op (g_v1 (g_v2 (g_I (by walk_at "num") (g_c (g_I (by walk_at "num") ?_))))))))))))))))))))))))))))))))))))
      exact hq
    | less =>
      refine g_seq (g_ifs (g_tst (g_op (g_v0 (g_c (g_eqS (g_k (g_ifD0 (by decide +kernel) (g_next (g_seq (g_ifs (g_tst (g_op (g_v0 (g_c (g_eqS (g_k (g_ifD0 (by decide +kernel) (g_next (g_seq (g_ifs (g_tst (g_op (g_v0 (g_c (g_eqS (g_k (g_ifD0 (by decide +kernel) (g_next (g_seq (g_ifs (g_tst (g_op (g_v0 (g_c (g_eqS (g_k (g_ifD1 rfl (g_ret (g_cb (g_cons (g_op (g_v1 (g_v2 (g_I0 (g_nil (g_intB ?_)))))))))))))))))))))))))))))))))))))))))))))))
      have e : (if decide (x < y) = true then (1 : Int) else 0) = Op.less.run x y := by simp [Op.run]
      rw [e]
      exact hq
    | same =>
      refine g_seq (g_ifs (g_tst (g_op (g_v0 (g_c (g_eqS (g_k (g_ifD0 (by decide +kernel) (g_next (g_seq (g_ifs (g_tst (g_op (g_v0 (g_c (g_eqS (g_k (g_ifD0 (by decide +kernel) (g_next (g_seq (g_ifs (g_tst (g_op (g_v0 (g_c (g_eqS (g_k (g_ifD0 (by decide +kernel) (g_next (g_seq (g_ifs (g_tst (g_op (g_v0 (g_c (g_eqS (g_k (g_ifD0 (by decide +kernel) (g_next (g_ret (g_cb (g_cons (g_op (g_v1 (g_v2 (g_eqI (g_nil (g_intB ?_))))))))))))))))))))))))))))))))))))))))))))))))
      have e : (if decide (x = y) = true then (1 : Int) else 0) = Op.same.run x y := by simp [Op.run]
      rw [e]
      exact hq
/-! ### value -/
abbrev N_value : List Str := ["tree", "boxes", "load", "time", "chosen"]
theorem sc_value : FnScope N_value ["tree", "boxes", "load", "time"] (defScope s_value) := ⟨rfl, rfl, rfl, by decide +kernel, rfl, by decide +kernel, by decide +kernel⟩
def sp_value (d : Nat) : Sp := fun vs H Q _ => ∃ (t : Tr) (u : V) (a : Addr) (b : Bx) (load time : Int), vs = [u, .ref a, .int load, .int time] ∧ TrAt t u H ∧ t.deep ≤ d ∧ t.ok (b.map (·.1)) ∧ At H a (.dK (bxK b)) ∧ BxOk b ∧ (0 ≤ load ∧ load < 100) ∧ Q (.int (t.val b load time)) H
theorem ok_value (T : TX w K mg) (f_reckoned : Fn P w K mg base CX0 1 "reckoned" ["word", "one", "other"] sp_reckoned) (d : Nat) : Fn P w K mg base CX0 (d + 2) "value" ["tree", "boxes", "load", "time"] (sp_value d) := by
  induction d with
  | zero =>
    obtain ⟨fd, F⟩ := T.d_value
    refine mk_fn F T.g_value sc_value (fun vs H Q E h => ?_) (fun _ _ _ _ _ _ us hl => match us, hl with | [_, _, _, _], _ => rfl) (fun cdv A outer s H vs Q E hr h => ?_)
    · obtain ⟨t, u, a, b, l, m, rfl, _⟩ := h
      rfl
    · obtain ⟨t, u, a, b, l, m, rfl, _, hd, _⟩ := h
      cases t <;> exact absurd hd (by simp [Tr.deep])
  | succ d f_value =>
    obtain ⟨fd, F⟩ := T.d_value
    refine mk_fn F T.g_value sc_value (fun vs H Q E h => ?_) (fun _ _ _ _ _ _ us hl => match us, hl with | [_, _, _, _], _ => rfl) (fun cdv A outer s H vs Q E hr h => ?_)
    · obtain ⟨t, u, a, b, l, m, rfl, _⟩ := h
      rfl
    · obtain ⟨t, u, a, b, l, m, rfl, ht, hd, hk, ha, hb, hl, hq⟩ := h
      have hu := hu_of hr
      refine ⟨(tSeq (tIfS (tTest (tOp rEq (tOp (rIxT K) (tVar 0) (tC (.int 0))) (tC (.str "num")))) (tRet (tOp (rIxT K) (tVar 0) (tC (.int 1)))) tNext) (tSeq (tIfS (tTest (tOp rEq (tOp (rIxT K) (tVar 0) (tC (.int 0))) (tC (.str "box")))) (tRet (tDGet (tVar 1) (tOp (rIxT K) (tVar 0) (tC (.int 1))))) tNext) (tSeq (tIfS (tTest (tOp rEq (tOp (rIxT K) (tVar 0) (tC (.int 0))) (tC (.str "load")))) (tRet (tVar 2)) tNext) (tSeq (tIfS (tTest (tOp rEq (tOp (rIxT K) (tVar 0) (tC (.int 0))) (tC (.str "now")))) (tRet (tOp rModI (tVar 3) (tC (.int 100)))) tNext) (tSeq (tIfS (tTest (tOp rEq (tOp (rIxT K) (tVar 0) (tC (.int 0))) (tC (.str "pick")))) (tSeq (tAsg (tOp (rIxT K) (tVar 0) (tC (.int 3))) (gName 4)) (tSeq (tIfS (tTest (tOp rNe (tCall (sp_value d) [] E0 (tCons (tOp (rIxT K) (tVar 0) (tC (.int 1))) (tCons (tVar 1) (tCons (tVar 2) (tCons (tVar 3) tNil))))) (tC (.int 0)))) (tAsg (tOp (rIxT K) (tVar 0) (tC (.int 2))) (gName 4)) tNext) (tRet (tCall (sp_value d) [] E0 (tCons (tVar 4) (tCons (tVar 1) (tCons (tVar 2) (tCons (tVar 3) tNil)))))))) tNext) (tRet (tCall sp_reckoned [] E0 (tCons (tOp (rIxT K) (tVar 0) (tC (.int 0))) (tCons (tCall (sp_value d) [] E0 (tCons (tOp (rIxT K) (tVar 0) (tC (.int 1))) (tCons (tVar 1) (tCons (tVar 2) (tCons (tVar 3) tNil))))) (tCons (tCall (sp_value d) [] E0 (tCons (tOp (rIxT K) (tVar 0) (tC (.int 2))) (tCons (tVar 1) (tCons (tVar 2) (tCons (tVar 3) tNil))))) tNil)))))))))),
        (pss_cons (ps_if (pt_cmpR op_eq (pe_ix ix_tup (pv 0) pe_int (fun _ _ => rfl)) pe_str (nomark _)) (pss_one (ps_ret (pe_ix ix_tup (pv 0) pe_int (fun _ _ => rfl)))) pss_nil)
      (pss_cons (ps_if (pt_cmpR op_eq (pe_ix ix_tup (pv 0) pe_int (fun _ _ => rfl)) pe_str (nomark _)) (pss_one (ps_ret (pe_dget hu (pv 1) (pe_ix ix_tup (pv 0) pe_int (fun _ _ => rfl)) (fun _ _ => rfl)))) pss_nil)
      (pss_cons (ps_if (pt_cmpR op_eq (pe_ix ix_tup (pv 0) pe_int (fun _ _ => rfl)) pe_str (nomark _)) (pss_one (ps_ret (pv 2))) pss_nil)
      (pss_cons (ps_if (pt_cmpR op_eq (pe_ix ix_tup (pv 0) pe_int (fun _ _ => rfl)) pe_str (nomark _)) (pss_one (ps_ret (pe_op op_mod (pv 3) (pe_gint (by rfl) T.k_ROUND)))) pss_nil)
      (pss_cons (ps_if (pt_cmpR op_eq (pe_ix ix_tup (pv 0) pe_int (fun _ _ => rfl)) pe_str (nomark _)) (pss_cons (ps_set (i := 4) sc_value.nd rfl (Or.inl rfl) (pe_ix ix_tup (pv 0) pe_int (fun _ _ => rfl)))
      (pss_cons (ps_if (pt_cmpR op_ne (f_value.ex.elim fun _ q => q.elim fun _ q => pe_call q.1 (hr.mono (by omega)) (by rfl) q.2.1 q.2.2.1 q.2.2.2 .nil pass0 (pa_cons (pe_ix ix_tup (pv 0) pe_int (fun _ _ => rfl)) (pa_cons (pv 1) (pa_cons (pv 2) (pa_cons (pv 3) pa_nil))))) pe_int (nomark _)) (pss_one (ps_set (i := 4) sc_value.nd rfl (Or.inl rfl) (pe_ix ix_tup (pv 0) pe_int (fun _ _ => rfl)))) pss_nil)
      (pss_one (ps_ret (f_value.ex.elim fun _ q => q.elim fun _ q => pe_call q.1 (hr.mono (by omega)) (by rfl) q.2.1 q.2.2.1 q.2.2.2 .nil pass0 (pa_cons (pv 4) (pa_cons (pv 1) (pa_cons (pv 2) (pa_cons (pv 3) pa_nil))))))))) pss_nil)
      (pss_one (ps_ret (f_reckoned.ex.elim fun _ q => q.elim fun _ q => pe_call q.1 (hr.mono (by omega)) (by rfl) q.2.1 q.2.2.1 q.2.2.2 .nil pass0 (pa_cons (pe_ix ix_tup (pv 0) pe_int (fun _ _ => rfl)) (pa_cons (f_value.ex.elim fun _ q => q.elim fun _ q => pe_call q.1 (hr.mono (by omega)) (by rfl) q.2.1 q.2.2.1 q.2.2.2 .nil pass0 (pa_cons (pe_ix ix_tup (pv 0) pe_int (fun _ _ => rfl)) (pa_cons (pv 1) (pa_cons (pv 2) (pa_cons (pv 3) pa_nil))))) (pa_cons (f_value.ex.elim fun _ q => q.elim fun _ q => pe_call q.1 (hr.mono (by omega)) (by rfl) q.2.1 q.2.2.1 q.2.2.2 .nil pass0 (pa_cons (pe_ix ix_tup (pv 0) pe_int (fun _ _ => rfl)) (pa_cons (pv 1) (pa_cons (pv 2) (pa_cons (pv 3) pa_nil))))) pa_nil))))))))))), ?_⟩
      refine g_start (σ' := [some _, some _, some _, some _, none]) rfl ?_
      cases t with
      | num n =>
        obtain ⟨c, rfl, hc⟩ := ht
        refine g_seq (g_ifs (g_tst (g_op (g_op (g_v0 (g_c (g_ixT (by walk_at "hx") (show atI _ _ = some _ from rfl) (g_c (g_eqS (g_k (g_ifD1 rfl (g_ret (g_op (g_v0 (g_c (g_ixT (by walk_at "hx") (show atI _ _ = some _ from rfl) ?_))))))))))))))))
        exact hq
      | box n =>
        obtain ⟨c, rfl, hc⟩ := ht
        refine g_seq (g_ifs (g_tst (g_op (g_op (g_v0 (g_c (g_ixT (by walk_at "hx") (show atI _ _ = some _ from rfl) (g_c (g_eqS (g_k (g_ifD0 (by decide +kernel) (g_next (g_seq (g_ifs (g_tst (g_op (g_op (g_v0 (g_c (g_ixT (by walk_at "hx") (show atI _ _ = some _ from rfl) (g_c (g_eqS (g_k (g_ifD1 rfl (g_ret (g_dget (g_v1 (g_op (g_v0 (g_c (g_ixT (by walk_at "hx") (show atI _ _ = some _ from rfl) ?_)))))))))))))))))))))))))))))))
        refine g_dgetS ha (valV_bxK hk) ?_
        exact hq
      | load =>
        obtain ⟨c, rfl, hc⟩ := ht
        refine g_seq (g_ifs (g_tst (g_op (g_op (g_v0 (g_c (g_ixT (by walk_at "hx") (show atI _ _ = some _ from rfl) (g_c (g_eqS (g_k (g_ifD0 (by decide +kernel) (g_next (g_seq (g_ifs (g_tst (g_op (g_op (g_v0 (g_c (g_ixT (by walk_at "hx") (show atI _ _ = some _ from rfl) (g_c (g_eqS (g_k (g_ifD0 (by decide +kernel) (g_next (g_seq (g_ifs (g_tst (g_op (g_op (g_v0 (g_c (g_ixT (by walk_at "hx") (show atI _ _ = some _ from rfl) (g_c (g_eqS (g_k (g_ifD1 rfl (g_ret (g_v2 ?_)))))))))))))))))))))))))))))))))))))))
        exact hq
      | now =>
        obtain ⟨c, rfl, hc⟩ := ht
        refine g_seq (g_ifs (g_tst (g_op (g_op (g_v0 (g_c (g_ixT (by walk_at "hx") (show atI _ _ = some _ from rfl) (g_c (g_eqS (g_k (g_ifD0 (by decide +kernel) (g_next (g_seq (g_ifs (g_tst (g_op (g_op (g_v0 (g_c (g_ixT (by walk_at "hx") (show atI _ _ = some _ from rfl) (g_c (g_eqS (g_k (g_ifD0 (by decide +kernel) (g_next (g_seq (g_ifs (g_tst (g_op (g_op (g_v0 (g_c (g_ixT (by walk_at "hx") (show atI _ _ = some _ from rfl) (g_c (g_eqS (g_k (g_ifD0 (by decide +kernel) (g_next (g_seq (g_ifs (g_tst (g_op (g_op (g_v0 (g_c (g_ixT (by walk_at "hx") (show atI _ _ = some _ from rfl) (g_c (g_eqS (g_k (g_ifD1 rfl (g_ret (g_op (g_v3 (g_c (g_I (by walk_at "num") ?_)))))))))))))))))))))))))))))))))))))))))))))))))))))))
        exact hq
      | pick x y z =>
        obtain ⟨c, u1, u2, u3, rfl, hc, h1, h2, h3⟩ := ht
        simp only [Tr.deep] at hd
        obtain ⟨k1, k2, k3⟩ := hk
        have hq' : Q (.int (if x.val b l m ≠ 0 then y.val b l m else z.val b l m)) H := hq
        refine g_seq (g_ifs (g_tst (g_op (g_op (g_v0 (g_c (g_ixT (by walk_at "hx") (show atI _ _ = some _ from rfl) (g_c (g_eqS (g_k (g_ifD0 (by decide +kernel) (g_next (g_seq (g_ifs (g_tst (g_op (g_op (g_v0 (g_c (g_ixT (by walk_at "hx") (show atI _ _ = some _ from rfl) (g_c (g_eqS (g_k (g_ifD0 (by decide +kernel) (g_next (g_seq (g_ifs (g_tst (g_op (g_op (g_v0 (g_c (g_ixT (by walk_at "hx") (show atI _ _ = some _ from rfl) (g_c (g_eqS (g_k (g_ifD0 (by decide +kernel) (g_next (g_seq (g_ifs (g_tst (g_op (g_op (g_v0 (g_c (g_ixT (by walk_at "hx") (show atI _ _ = some _ from rfl) (g_c (g_eqS (g_k (g_ifD0 (by decide +kernel) (g_next (g_seq (g_ifs (g_tst (g_op (g_op (g_v0 (g_c (g_ixT (by walk_at "hx") (show atI _ _ = some _ from rfl) (g_c (g_eqS (g_k (g_ifD1 rfl (g_seq (g_asg (g_op (g_v0 (g_c (g_ixT (by walk_at "hx") (show atI _ _ = some _ from rfl) (g_n4 (g_seq (g_ifs (g_tst (g_op (g_call (g_cons (g_op (g_v0 (g_c (g_ixT (by walk_at "hx") (show atI _ _ = some _ from rfl) (g_cons (g_v1 (g_cons (g_v2 (g_cons (g_v3 (g_nil ?_)))))))))))))))))))))))))))))))))))))))))))))))))))))))))))))))))))))))))))))))))))))))
        refine ⟨x, u1, a, b, l, m, rfl, h1, by omega, k1, ha, hb, hl, ?_⟩
        by_cases e : x.val b l m = 0
        · rw [if_neg (not_not_intro e)] at hq'
          refine g_c (g_neI (g_k (g_ifN0 (e) (g_next (g_ret (g_call (g_cons (g_v4 (g_cons (g_v1 (g_cons (g_v2 (g_cons (g_v3 (g_nil ?_)))))))))))))))
          refine ⟨z, u3, a, b, l, m, rfl, h3, by omega, k3, ha, hb, hl, ?_⟩
          exact hq'
        · rw [if_pos e] at hq'
          refine g_c (g_neI (g_k (g_ifN1 (e) (g_asg (g_op (g_v0 (g_c (g_ixT (by walk_at "hx") (show atI _ _ = some _ from rfl) (g_n4 (g_ret (g_call (g_cons (g_v4 (g_cons (g_v1 (g_cons (g_v2 (g_cons (g_v3 (g_nil ?_))))))))))))))))))))
          refine ⟨y, u2, a, b, l, m, rfl, h2, by omega, k2, ha, hb, hl, ?_⟩
          exact hq'
      | bin o x y =>
        obtain ⟨c, u1, u2, rfl, hc, h1, h2⟩ := ht
        simp only [Tr.deep] at hd
        refine g_seq (g_ifs (g_tst (g_op (g_op (g_v0 (g_c (g_ixT (by walk_at "hx") (show atI _ _ = some _ from rfl) (g_c (g_eqS (g_k (g_ifD0 (op_nums o) (g_next (g_seq (g_ifs (g_tst (g_op (g_op (g_v0 (g_c (g_ixT (by walk_at "hx") (show atI _ _ = some _ from rfl) (g_c (g_eqS (g_k (g_ifD0 (op_box o) (g_next (g_seq (g_ifs (g_tst (g_op (g_op (g_v0 (g_c (g_ixT (by walk_at "hx") (show atI _ _ = some _ from rfl) (g_c (g_eqS (g_k (g_ifD0 (op_load o) (g_next (g_seq (g_ifs (g_tst (g_op (g_op (g_v0 (g_c (g_ixT (by walk_at "hx") (show atI _ _ = some _ from rfl) (g_c (g_eqS (g_k (g_ifD0 (op_now o) (g_next (g_seq (g_ifs (g_tst (g_op (g_op (g_v0 (g_c (g_ixT (by walk_at "hx") (show atI _ _ = some _ from rfl) (g_c (g_eqS (g_k (g_ifD0 (op_pick o) (g_next (g_ret (g_call (g_cons (g_op (g_v0 (g_c (g_ixT (by walk_at "hx") (show atI _ _ = some _ from rfl) (g_cons (g_call (g_cons (g_op (g_v0 (g_c (g_ixT (by walk_at "hx") (show atI _ _ = some _ from rfl) (g_cons (g_v1 (g_cons (g_v2 (g_cons (g_v3 (g_nil ?_)))))))))))))))))))))))))))))))))))))))))))))))))))))))))))))))))))))))))))))))))))))
        refine ⟨x, u1, a, b, l, m, rfl, h1, by omega, hk.1, ha, hb, hl, ?_⟩
        refine g_cons (g_call (g_cons (g_op (g_v0 (g_c (g_ixT (by walk_at "hx") (show atI _ _ = some _ from rfl) (g_cons (g_v1 (g_cons (g_v2 (g_cons (g_v3 (g_nil ?_)))))))))))))
        refine ⟨y, u2, a, b, l, m, rfl, h2, by omega, hk.2, ha, hb, hl, ?_⟩
        refine g_nil ?_
        refine ⟨o, _, _, rfl, Tr.val_ok hb hl x hk.1, ?_⟩
        exact hq
end
end PM
/-! part F2 -/
namespace PM
open PySem PySem.Spec PyProof.Rows L2 PMH
open Evl (Ex)

local macro_rules | `(tactic| walk_at "ex") => `(tactic| first
  | with_reducible assumption
  | with_reducible exact Evl.Ex.refl _
  | (refine Evl.Ex.trans ?_ (by with_reducible assumption); walk_at "ex"))
local macro_rules | `(tactic| walk_at "hx") => `(tactic| first
  | with_reducible assumption
  | (refine At.ex (by with_reducible assumption) ?_; walk_at "ex")
  | (refine Fz.tx (by with_reducible assumption) ?_; walk_at "tx")
  | (refine TrAt.ex (by with_reducible assumption) ?_; walk_at "ex")
  | (refine MlAt.tx ?_ (by with_reducible assumption); walk_at "tx")
  | (refine PlAt.tx ?_ (by with_reducible assumption); walk_at "tx")
  | (refine LtAt.tx ?_ (by with_reducible assumption); walk_at "tx")
  | (refine GvAt.tx ?_ (by with_reducible assumption); walk_at "tx")
  | (refine WsAt.tx ?_ (by with_reducible assumption); walk_at "tx")
  | (refine RwAt.tx ?_ _ _ (by with_reducible assumption); walk_at "tx")
  | (refine RwsAt.tx ?_ _ _ (by with_reducible assumption); walk_at "tx")
  | (refine RuAt.tx ?_ (by with_reducible assumption); walk_at "tx")
  | (refine PrAt.tx ?_ (by with_reducible assumption); walk_at "tx"))
local macro_rules | `(tactic| walk_at "num") => `(tactic| first
  | with_reducible assumption
  | decide
  | exact Or.inl ⟨by omega, by omega⟩
  | exact Or.inr ⟨by omega, by omega⟩
  | (refine ⟨?_, ?_⟩ <;> omega)
  | (show (0 : Int) < _; omega))
local macro_rules | `(tactic| walk_at "tx") => `(tactic| first
  | with_reducible assumption
  | (refine Tx.ex ?_; walk_at "ex"))
local macro_rules | `(tactic| walk_at "sz") => `(tactic| first
  | with_reducible assumption
  | omega
  | (refine Evl.sz_of ?_; omega)
  | (refine Evl.sz_lt ?_; omega))
local macro_rules | `(tactic| walk_at "fl") => `(tactic| first
  | rfl
  | decide +kernel)

theorem pick_word (x y z : Tr) : ¬ (Tr.pick x y z).ar = 0 := by simp [Tr.ar]
theorem bin_word (o : Op) (x y : Tr) : ¬ (Tr.bin o x y).ar = 0 := by simp [Tr.ar]
theorem op_kept (o : Op) : inV (.str o.word) [.str "load", .str "now"] = false := by cases o <;> decide +kernel
theorem Tr.deep_pos (t : Tr) : 1 ≤ t.deep := by cases t <;> simp [Tr.deep]
section
variable {P : Program} {w : World} {K : PySem.W.Frag} {mg : Str → Option Value} {base : Heap}
/-! ### parts_of -/
abbrev N_parts_of : List Str := ["thing", "room", "good", "part"]
theorem sc_parts_of : FnScope N_parts_of ["thing", "room"] (defScope s_parts_of) := ⟨rfl, rfl, rfl, by decide +kernel, rfl, by decide +kernel, by decide +kernel⟩
def sp_parts_of (d : Nat) : Sp := fun vs H Q _ => ∃ (t : Tr) (u : V) (r : Int) (ns : List Nm), vs = [u, .int r] ∧ TrAt t u H ∧ t.deep ≤ d ∧ (t.deep : Int) ≤ r ∧ t.ok ns ∧ (∀ n ∈ ns, n ∈ nms) ∧ Ret (.int t.size) H Q
theorem ok_parts_of (T : TX w K mg) (f_is_name : Fn P w K mg base CX0 1 "is_name" ["thing"] sp_is_name) (f_is_number : Fn P w K mg base CX0 1 "is_number" ["thing"] sp_is_number) (f_trees_in : Fn P w K mg base CX0 1 "trees_in" ["word"] sp_trees_in)
    (d : Nat) : Fn P w K mg base CX0 (d + 2) "parts_of" ["thing", "room"] (sp_parts_of d) := by
  induction d with
  | zero =>
    obtain ⟨fd, F⟩ := T.d_parts_of
    refine mk_fn F T.g_parts_of sc_parts_of (fun vs H Q E h => ?_) (fun _ _ _ _ _ _ us hl => match us, hl with | [_, _], _ => rfl) (fun cdv A outer s H vs Q E hr h => ?_)
    · obtain ⟨t, u, r, ns, rfl, _⟩ := h
      rfl
    · obtain ⟨t, u, r, ns, rfl, _, hd, _⟩ := h
      cases t <;> exact absurd hd (by simp [Tr.deep])
  | succ d f_parts_of =>
    obtain ⟨fd, F⟩ := T.d_parts_of
    refine mk_fn F T.g_parts_of sc_parts_of (fun vs H Q E h => ?_) (fun _ _ _ _ _ _ us hl => match us, hl with | [_, _], _ => rfl) (fun cdv A outer s H vs Q E hr h => ?_)
    · obtain ⟨t, u, r, ns, rfl, _⟩ := h
      rfl
    · obtain ⟨t, u, r, ns, rfl, ht, hd, hrm, hk, hns, hq⟩ := h
      have hu := hu_of hr
      have hr0 : ¬ r = 0 := by
        have := t.deep_pos
        omega
      refine ⟨(tSeq (tIfS (tOr (tNot (tB (tCB (rIsi K) (tCons (tVar 0) (tCons (tC (.ty "tuple")) tNil))))) (tOr (tTest (tOp rEq (tCB (Evl.rLenS K) (tCons (tVar 0) tNil)) (tC (.int 0)))) (tOr (tNot (tB (tCB (rIsi K) (tCons (tOp (rIxT K) (tVar 0) (tC (.int 0))) (tCons (tC (.ty "str")) tNil))))) (tTest (tOp rEq (tVar 1) (tC (.int 0))))))) (tRet (tOp rAddI (tC (.int 30)) (tC (.int 1)))) tNext) (tSeq (tIfS (tOr (tTest (tOp rEq (tOp (rIxT K) (tVar 0) (tC (.int 0))) (tC (.str "num")))) (tTest (tOp rEq (tOp (rIxT K) (tVar 0) (tC (.int 0))) (tC (.str "box"))))) (tSeq (tAsg (tAndV (tOp rEq (tCB (Evl.rLenS K) (tCons (tVar 0) tNil)) (tC (.int 2))) (tIf (tTest (tOp rEq (tOp (rIxT K) (tVar 0) (tC (.int 0))) (tC (.str "num")))) (tCall sp_is_number [] E0 (tCons (tOp (rIxT K) (tVar 0) (tC (.int 1))) tNil)) (tCall sp_is_name [] E0 (tCons (tOp (rIxT K) (tVar 0) (tC (.int 1))) tNil)))) (gName 2)) (tRet (tIf (tB (tVar 2)) (tC (.int 1)) (tOp rAddI (tC (.int 30)) (tC (.int 1)))))) tNext) (tSeq (tIfS (tTest (tOp (rIn K false) (tOp (rIxT K) (tVar 0) (tC (.int 0))) (tC (.ref (He.ga K "KEPT"))))) (tRet (tIf (tTest (tOp rEq (tCB (Evl.rLenS K) (tCons (tVar 0) tNil)) (tC (.int 1)))) (tC (.int 1)) (tOp rAddI (tC (.int 30)) (tC (.int 1))))) tNext) (tSeq (tIfS (tOr (tTest (tOp rEq (tCall sp_trees_in [] E0 (tCons (tOp (rIxT K) (tVar 0) (tC (.int 0))) tNil)) (tC (.int 0)))) (tTest (tOp rNe (tCB (Evl.rLenS K) (tCons (tVar 0) tNil)) (tOp rAddI (tC (.int 1)) (tCall sp_trees_in [] E0 (tCons (tOp (rIxT K) (tVar 0) (tC (.int 0))) tNil)))))) (tRet (tOp rAddI (tC (.int 30)) (tC (.int 1)))) tNext) (tRet (tOp rAddI (tC (.int 1)) (tCB (rSum K) (tCons (tLc (iTup K (tSl (rSlA K) (tVar 0) (tPart (tC (.int 1))) tNoPart)) (gName 3) tYes (tCall (sp_parts_of d) [] E0 (tCons (tVar 3) (tCons (tOp rSubI (tVar 1) (tC (.int 1))) tNil))) [3]) tNil)))))))),
        (pss_cons (ps_if (PW.pt (pw_or (pt_not (pt_val (pe_callB call_isi (by rfl) T.b_isinstance bt_isinstance (pa_cons (pv 0) (pa_cons (pe_bltn (v := .ty "tuple") (by rfl) T.b_tuple bt_tuple rfl) pa_nil))))) (pw_or (pt_cmpR op_eq (pe_callB cl_len (by rfl) T.b_len bt_len (pa_cons (pv 0) pa_nil)) pe_int (nomark _)) (pw_or (pt_not (pt_val (pe_callB call_isi (by rfl) T.b_isinstance bt_isinstance (pa_cons (pe_ix ix_tup (pv 0) pe_int (fun _ _ => rfl)) (pa_cons (pe_bltn (v := .ty "str") (by rfl) T.b_str bt_str rfl) pa_nil))))) (pw_or1 (pt_cmpR op_eq (pv 1) pe_int (nomark _))))))) (pss_one (ps_ret (pe_op op_add (pe_gint (by rfl) T.k_MOST_PARTS) pe_int))) pss_nil)
      (pss_cons (ps_if (PW.pt (pw_or (pt_cmpR op_eq (pe_ix ix_tup (pv 0) pe_int (fun _ _ => rfl)) pe_str (nomark _)) (pw_or1 (pt_cmpR op_eq (pe_ix ix_tup (pv 0) pe_int (fun _ _ => rfl)) pe_str (nomark _))))) (pss_cons (ps_set (i := 2) sc_parts_of.nd rfl (Or.inl rfl) (pe_and (pe_cmpR op_eq (pe_callB cl_len (by rfl) T.b_len bt_len (pa_cons (pv 0) pa_nil)) pe_int (nomark _)) (pe_one (pe_ifExp (pt_cmpR op_eq (pe_ix ix_tup (pv 0) pe_int (fun _ _ => rfl)) pe_str (nomark _)) (f_is_number.ex.elim fun _ q => q.elim fun _ q => pe_call q.1 (hr.mono (by omega)) (by rfl) q.2.1 q.2.2.1 q.2.2.2 .nil pass0 (pa_cons (pe_ix ix_tup (pv 0) pe_int (fun _ _ => rfl)) pa_nil)) (f_is_name.ex.elim fun _ q => q.elim fun _ q => pe_call q.1 (hr.mono (by omega)) (by rfl) q.2.1 q.2.2.1 q.2.2.2 .nil pass0 (pa_cons (pe_ix ix_tup (pv 0) pe_int (fun _ _ => rfl)) pa_nil))))))
      (pss_one (ps_ret (pe_ifExp (pt_val (pv 2)) pe_int (pe_op op_add (pe_gint (by rfl) T.k_MOST_PARTS) pe_int))))) pss_nil)
      (pss_cons (ps_if (pt_cmpR op_in_seq (pe_ix ix_tup (pv 0) pe_int (fun _ _ => rfl)) (pe_gref (by rfl) T.g_KEPT) (by rfl)) (pss_one (ps_ret (pe_ifExp (pt_cmpR op_eq (pe_callB cl_len (by rfl) T.b_len bt_len (pa_cons (pv 0) pa_nil)) pe_int (nomark _)) pe_int (pe_op op_add (pe_gint (by rfl) T.k_MOST_PARTS) pe_int)))) pss_nil)
      (pss_cons (ps_if (PW.pt (pw_or (pt_cmpR op_eq (f_trees_in.ex.elim fun _ q => q.elim fun _ q => pe_call q.1 (hr.mono (by omega)) (by rfl) q.2.1 q.2.2.1 q.2.2.2 .nil pass0 (pa_cons (pe_ix ix_tup (pv 0) pe_int (fun _ _ => rfl)) pa_nil)) pe_int (nomark _)) (pw_or1 (pt_cmpR op_ne (pe_callB cl_len (by rfl) T.b_len bt_len (pa_cons (pv 0) pa_nil)) (pe_op op_add pe_int (f_trees_in.ex.elim fun _ q => q.elim fun _ q => pe_call q.1 (hr.mono (by omega)) (by rfl) q.2.1 q.2.2.1 q.2.2.2 .nil pass0 (pa_cons (pe_ix ix_tup (pv 0) pe_int (fun _ _ => rfl)) pa_nil))) (nomark _))))) (pss_one (ps_ret (pe_op op_add (pe_gint (by rfl) T.k_MOST_PARTS) pe_int))) pss_nil)
      (pss_one (ps_ret (pe_op op_add pe_int (pe_callB (cr_sum rfl) (by rfl) T.b_sum bt_sum (pa_cons (pe_lc (own := [("part", 3)]) (wi := (iTup K (tSl (rSlA K) (tVar 0) (tPart (tC (.int 1))) tNoPart))) (g := (gName 3)) (tt := tYes) (te := (tCall (sp_parts_of d) [] E0 (tCons (tVar 3) (tCons (tOp rSubI (tVar 1) (tC (.int 1))) tNil)))) rfl sc_parts_of.nd (pi_tup (pe_slice sl_tupA (pv 0) (po_some pe_int) po_none)) (blkOk_by (N := N_parts_of) (sc := defScope s_parts_of) (by decide +kernel)) (fun _ _ _ _ _ => (pg_name (i := 3) sc_parts_of.nd rfl (Or.inl rfl))) (fun _ _ _ _ _ => pts_nil) (fun _ _ _ _ _ => (f_parts_of.ex.elim fun _ q => q.elim fun _ q => pe_call q.1 (hr.mono (by omega)) (by rfl) q.2.1 q.2.2.1 q.2.2.2 .nil pass0 (pa_cons (pv 3) (pa_cons (pe_op op_sub (pv 1) pe_int) pa_nil))))) pa_nil))))))))), ?_⟩
      refine g_start (σ' := [some _, some _, none, none]) rfl ?_
      cases t with
      | num n =>
        obtain ⟨c, rfl, hc⟩ := ht
        refine g_seq (g_ifs (g_or (g_not (g_tB (g_cb (g_cons (g_v0 (g_cons (g_c (g_nil (g_isTup (by walk_at "hx") (g_k (g_iteF (g_or (g_tst (g_op (g_cb (g_cons (g_v0 (g_nil (g_lnT (by walk_at "hx") (g_c (g_eqI (g_k (g_ifD0 (by simp) (g_or (g_not (g_tB (g_cb (g_cons (g_op (g_v0 (g_c (g_ixT (by walk_at "hx") (show atI _ _ = some _ from rfl) (g_cons (g_c (g_nil (g_isStr (g_k (g_iteF (g_tst (g_op (g_v1 (g_c (g_eqI (g_k (g_ifD0 (hr0) (g_next (g_seq (g_ifs (g_or (g_tst (g_op (g_op (g_v0 (g_c (g_ixT (by walk_at "hx") (show atI _ _ = some _ from rfl) (g_c (g_eqS (g_k (g_ifD1 rfl (g_iteT (g_seq (g_asg (g_andV (g_op (g_cb (g_cons (g_v0 (g_nil (g_lnT (by walk_at "hx") (g_c (g_eqI (g_k (g_ifD1 (by simp) (g_if (g_tst (g_op (g_op (g_v0 (g_c (g_ixT (by walk_at "hx") (show atI _ _ = some _ from rfl) (g_c (g_eqS (g_k (g_ifD1 rfl (g_call (g_cons (g_op (g_v0 (g_c (g_ixT (by walk_at "hx") (show atI _ _ = some _ from rfl) (g_nil ?_)))))))))))))))))))))))))))))))))))))))))))))))))))))))))))))))))))))))))))))))))))))))))))))
        refine ⟨n, rfl, hk.1, hk.2, ?_⟩
        refine g_n2 (g_ret (g_if (g_tB (g_v2 (g_k (g_iteT (g_c ?_)))))))
        exact hq _ (Evl.Ex.refl _)
      | box n =>
        obtain ⟨c, rfl, hc⟩ := ht
        refine g_seq (g_ifs (g_or (g_not (g_tB (g_cb (g_cons (g_v0 (g_cons (g_c (g_nil (g_isTup (by walk_at "hx") (g_k (g_iteF (g_or (g_tst (g_op (g_cb (g_cons (g_v0 (g_nil (g_lnT (by walk_at "hx") (g_c (g_eqI (g_k (g_ifD0 (by simp) (g_or (g_not (g_tB (g_cb (g_cons (g_op (g_v0 (g_c (g_ixT (by walk_at "hx") (show atI _ _ = some _ from rfl) (g_cons (g_c (g_nil (g_isStr (g_k (g_iteF (g_tst (g_op (g_v1 (g_c (g_eqI (g_k (g_ifD0 (hr0) (g_next (g_seq (g_ifs (g_or (g_tst (g_op (g_op (g_v0 (g_c (g_ixT (by walk_at "hx") (show atI _ _ = some _ from rfl) (g_c (g_eqS (g_k (g_ifD0 (by decide +kernel) (g_tst (g_op (g_op (g_v0 (g_c (g_ixT (by walk_at "hx") (show atI _ _ = some _ from rfl) (g_c (g_eqS (g_k (g_ifD1 rfl (g_seq (g_asg (g_andV (g_op (g_cb (g_cons (g_v0 (g_nil (g_lnT (by walk_at "hx") (g_c (g_eqI (g_k (g_ifD1 (by simp) (g_if (g_tst (g_op (g_op (g_v0 (g_c (g_ixT (by walk_at "hx") (show atI _ _ = some _ from rfl) (g_c (g_eqS (g_k (g_ifD0 (by decide +kernel) (g_call (g_cons (g_op (g_v0 (g_c (g_ixT (by walk_at "hx") (show atI _ _ = some _ from rfl) (g_nil ?_))))))))))))))))))))))))))))))))))))))))))))))))))))))))))))))))))))))))))))))))))))))))))))))))))))))
        refine ⟨n, rfl, hns n hk, ?_⟩
        refine g_n2 (g_ret (g_if (g_tB (g_v2 (g_k (g_iteT (g_c ?_)))))))
        exact hq _ (Evl.Ex.refl _)
      | load =>
        obtain ⟨c, rfl, hc⟩ := ht
        refine g_seq (g_ifs (g_or (g_not (g_tB (g_cb (g_cons (g_v0 (g_cons (g_c (g_nil (g_isTup (by walk_at "hx") (g_k (g_iteF (g_or (g_tst (g_op (g_cb (g_cons (g_v0 (g_nil (g_lnT (by walk_at "hx") (g_c (g_eqI (g_k (g_ifD0 (by simp) (g_or (g_not (g_tB (g_cb (g_cons (g_op (g_v0 (g_c (g_ixT (by walk_at "hx") (show atI _ _ = some _ from rfl) (g_cons (g_c (g_nil (g_isStr (g_k (g_iteF (g_tst (g_op (g_v1 (g_c (g_eqI (g_k (g_ifD0 (hr0) (g_next (g_seq (g_ifs (g_or (g_tst (g_op (g_op (g_v0 (g_c (g_ixT (by walk_at "hx") (show atI _ _ = some _ from rfl) (g_c (g_eqS (g_k (g_ifD0 (by decide +kernel) (g_tst (g_op (g_op (g_v0 (g_c (g_ixT (by walk_at "hx") (show atI _ _ = some _ from rfl) (g_c (g_eqS (g_k (g_ifD0 (by decide +kernel) (g_next (g_seq (g_ifs (g_tst (g_op (g_op (g_v0 (g_c (g_ixT (by walk_at "hx") (show atI _ _ = some _ from rfl) (g_c ?_)))))))))))))))))))))))))))))))))))))))))))))))))))))))))))))))))))))))))))))))))
        refine g_inT0 (b := true) (T.kept _) rfl rfl (by decide +kernel) ?_
        refine g_k (g_iteT (g_ret (g_if (g_tst (g_op (g_cb (g_cons (g_v0 (g_nil (g_lnT (by walk_at "hx") (g_c (g_eqI (g_k (g_ifD1 (by simp) (g_c ?_)))))))))))))))
        exact hq _ (Evl.Ex.refl _)
      | now =>
        obtain ⟨c, rfl, hc⟩ := ht
        refine g_seq (g_ifs (g_or (g_not (g_tB (g_cb (g_cons (g_v0 (g_cons (g_c (g_nil (g_isTup (by walk_at "hx") (g_k (g_iteF (g_or (g_tst (g_op (g_cb (g_cons (g_v0 (g_nil (g_lnT (by walk_at "hx") (g_c (g_eqI (g_k (g_ifD0 (by simp) (g_or (g_not (g_tB (g_cb (g_cons (g_op (g_v0 (g_c (g_ixT (by walk_at "hx") (show atI _ _ = some _ from rfl) (g_cons (g_c (g_nil (g_isStr (g_k (g_iteF (g_tst (g_op (g_v1 (g_c (g_eqI (g_k (g_ifD0 (hr0) (g_next (g_seq (g_ifs (g_or (g_tst (g_op (g_op (g_v0 (g_c (g_ixT (by walk_at "hx") (show atI _ _ = some _ from rfl) (g_c (g_eqS (g_k (g_ifD0 (by decide +kernel) (g_tst (g_op (g_op (g_v0 (g_c (g_ixT (by walk_at "hx") (show atI _ _ = some _ from rfl) (g_c (g_eqS (g_k (g_ifD0 (by decide +kernel) (g_next (g_seq (g_ifs (g_tst (g_op (g_op (g_v0 (g_c (g_ixT (by walk_at "hx") (show atI _ _ = some _ from rfl) (g_c ?_)))))))))))))))))))))))))))))))))))))))))))))))))))))))))))))))))))))))))))))))))
        refine g_inT0 (b := true) (T.kept _) rfl rfl (by decide +kernel) ?_
        refine g_k (g_iteT (g_ret (g_if (g_tst (g_op (g_cb (g_cons (g_v0 (g_nil (g_lnT (by walk_at "hx") (g_c (g_eqI (g_k (g_ifD1 (by simp) (g_c ?_)))))))))))))))
        exact hq _ (Evl.Ex.refl _)
      | pick x y z =>
        obtain ⟨c, u1, u2, u3, rfl, hc, h1, h2, h3⟩ := ht
        simp only [Tr.deep] at hd hrm
        obtain ⟨k1, k2, k3⟩ := hk
        refine g_seq (g_ifs (g_or (g_not (g_tB (g_cb (g_cons (g_v0 (g_cons (g_c (g_nil (g_isTup (by walk_at "hx") (g_k (g_iteF (g_or (g_tst (g_op (g_cb (g_cons (g_v0 (g_nil (g_lnT (by walk_at "hx") (g_c (g_eqI (g_k (g_ifD0 (by simp) (g_or (g_not (g_tB (g_cb (g_cons (g_op (g_v0 (g_c (g_ixT (by walk_at "hx") (show atI _ _ = some _ from rfl) (g_cons (g_c (g_nil (g_isStr (g_k (g_iteF (g_tst (g_op (g_v1 (g_c (g_eqI (g_k (g_ifD0 (hr0) (g_next (g_seq (g_ifs (g_or (g_tst (g_op (g_op (g_v0 (g_c (g_ixT (by walk_at "hx") (show atI _ _ = some _ from rfl) (g_c (g_eqS (g_k (g_ifD0 (by decide +kernel) (g_tst (g_op (g_op (g_v0 (g_c (g_ixT (by walk_at "hx") (show atI _ _ = some _ from rfl) (g_c (g_eqS (g_k (g_ifD0 (by decide +kernel) (g_next (g_seq (g_ifs (g_tst (g_op (g_op (g_v0 (g_c (g_ixT (by walk_at "hx") (show atI _ _ = some _ from rfl) (g_c ?_)))))))))))))))))))))))))))))))))))))))))))))))))))))))))))))))))))))))))))))))))
        refine g_inT0 (b := false) (T.kept _) rfl rfl (by decide +kernel) ?_
        refine g_k (g_iteF (g_next (g_seq (g_ifs (g_or (g_tst (g_op (g_call (g_cons (g_op (g_v0 (g_c (g_ixT (by walk_at "hx") (show atI _ _ = some _ from rfl) (g_nil ?_))))))))))))))
        refine ⟨.pick x y z, rfl, (fun b => by intro q; cases q), ?_⟩
        refine g_c (g_eqI (g_k (g_ifD0 (pick_word x y z) (g_tst (g_op (g_cb (g_cons (g_v0 (g_nil (g_lnT (by walk_at "hx") (g_op (g_c (g_call (g_cons (g_op (g_v0 (g_c (g_ixT (by walk_at "hx") (show atI _ _ = some _ from rfl) (g_nil ?_)))))))))))))))))))
        refine ⟨.pick x y z, rfl, (fun b => by intro q; cases q), ?_⟩
        refine g_I0 (g_neI (g_k (g_ifN0 (rfl) (g_next (g_ret (g_op (g_c (g_cb (g_cons (g_lcT (g_sl (g_v0 (g_po (g_c (g_poI (g_po0 ?_))))))))))))))))
        refine g_slT hc (fun z => absurd (show (1 : Nat) = 0 from z.1) (by decide)) (fun p H1 np e1 hp => ?_)
        have hp' : At H1 p (.tup [u1, u2, u3]) := hp

        refine lc_mapT (R := TrAt) (ds := [x, y, z]) (h := fun t => .int t.size) hp' ⟨u1, _, rfl, by walk_at "hx", u2, _, rfl, by walk_at "hx", u3, _, rfl, by walk_at "hx", rfl⟩ (by simp) (fun _ _ _ e r => r.ex e) (fun t hm u H2 e2 hR Y N hY => ?_) (fun D H2 _ e2 hD => ?_)
        ·
          refine g_n3 (And.intro rfl (g_yes (g_iteT (g_call (g_cons (g_v3 (g_cons (g_op (g_v1 (g_c (g_I0 (g_nil ?_))))))))))))
          have hb : t.deep ≤ d ∧ (t.deep : Int) ≤ r - 1 ∧ t.ok ns := by
            rcases List.mem_cons.mp hm with rfl | hm
            · exact ⟨by omega, by omega, k1⟩
            rcases List.mem_cons.mp hm with rfl | hm
            · exact ⟨by omega, by omega, k2⟩
            rcases List.mem_cons.mp hm with rfl | hm
            · exact ⟨by omega, by omega, k3⟩
            cases hm
          exact ⟨t, u, r - 1, ns, rfl, hR, hb.1, hb.2.1, hb.2.2, hns, fun H4 e4 => hY H4 e4⟩
        ·
          refine g_nil ?_
          refine g_sum (ns := [(x.size : Int), y.size, z.size]) hD ?_
          refine g_I0 ?_
          have e : (1 : Int) + [(x.size : Int), y.size, z.size].sum = ((Tr.pick x y z).size : Nat) := by
            simp only [Tr.size, List.sum_cons, List.sum_nil]
            omega
          show Q (.int (1 + [(x.size : Int), y.size, z.size].sum)) H2
          rw [e]
          exact hq _ (by walk_at "ex")
      | bin o x y =>
        obtain ⟨c, u1, u2, rfl, hc, h1, h2⟩ := ht
        simp only [Tr.deep] at hd hrm
        obtain ⟨k1, k2⟩ := hk
        refine g_seq (g_ifs (g_or (g_not (g_tB (g_cb (g_cons (g_v0 (g_cons (g_c (g_nil (g_isTup (by walk_at "hx") (g_k (g_iteF (g_or (g_tst (g_op (g_cb (g_cons (g_v0 (g_nil (g_lnT (by walk_at "hx") (g_c (g_eqI (g_k (g_ifD0 (by simp) (g_or (g_not (g_tB (g_cb (g_cons (g_op (g_v0 (g_c (g_ixT (by walk_at "hx") (show atI _ _ = some _ from rfl) (g_cons (g_c (g_nil (g_isStr (g_k (g_iteF (g_tst (g_op (g_v1 (g_c (g_eqI (g_k (g_ifD0 (hr0) (g_next (g_seq (g_ifs (g_or (g_tst (g_op (g_op (g_v0 (g_c (g_ixT (by walk_at "hx") (show atI _ _ = some _ from rfl) (g_c (g_eqS (g_k (g_ifD0 (op_nums o) (g_tst (g_op (g_op (g_v0 (g_c (g_ixT (by walk_at "hx") (show atI _ _ = some _ from rfl) (g_c (g_eqS (g_k (g_ifD0 (op_box o) (g_next (g_seq (g_ifs (g_tst (g_op (g_op (g_v0 (g_c (g_ixT (by walk_at "hx") (show atI _ _ = some _ from rfl) (g_c ?_)))))))))))))))))))))))))))))))))))))))))))))))))))))))))))))))))))))))))))))))))
        refine g_inT0 (b := false) (T.kept _) rfl rfl (op_kept o) ?_
        refine g_k (g_iteF (g_next (g_seq (g_ifs (g_or (g_tst (g_op (g_call (g_cons (g_op (g_v0 (g_c (g_ixT (by walk_at "hx") (show atI _ _ = some _ from rfl) (g_nil ?_))))))))))))))
        refine ⟨.bin o x y, rfl, (fun b => by intro q; cases q), ?_⟩
        refine g_c (g_eqI (g_k (g_ifD0 (bin_word o x y) (g_tst (g_op (g_cb (g_cons (g_v0 (g_nil (g_lnT (by walk_at "hx") (g_op (g_c (g_call (g_cons (g_op (g_v0 (g_c (g_ixT (by walk_at "hx") (show atI _ _ = some _ from rfl) (g_nil ?_)))))))))))))))))))
        refine ⟨.bin o x y, rfl, (fun b => by intro q; cases q), ?_⟩
        refine g_I0 (g_neI (g_k (g_ifN0 (rfl) (g_next (g_ret (g_op (g_c (g_cb (g_cons (g_lcT (g_sl (g_v0 (g_po (g_c (g_poI (g_po0 ?_))))))))))))))))
        refine g_slT hc (fun z => absurd (show (1 : Nat) = 0 from z.1) (by decide)) (fun p H1 np e1 hp => ?_)
        have hp' : At H1 p (.tup [u1, u2]) := hp

        refine lc_mapT (R := TrAt) (ds := [x, y]) (h := fun t => .int t.size) hp' ⟨u1, _, rfl, by walk_at "hx", u2, _, rfl, by walk_at "hx", rfl⟩ (by simp) (fun _ _ _ e r => r.ex e) (fun t hm u H2 e2 hR Y N hY => ?_) (fun D H2 _ e2 hD => ?_)
        ·
          refine g_n3 (And.intro rfl (g_yes (g_iteT (g_call (g_cons (g_v3 (g_cons (g_op (g_v1 (g_c (g_I0 (g_nil ?_))))))))))))
          have hb : t.deep ≤ d ∧ (t.deep : Int) ≤ r - 1 ∧ t.ok ns := by
            rcases List.mem_cons.mp hm with rfl | hm
            · exact ⟨by omega, by omega, k1⟩
            rcases List.mem_cons.mp hm with rfl | hm
            · exact ⟨by omega, by omega, k2⟩
            cases hm
          exact ⟨t, u, r - 1, ns, rfl, hR, hb.1, hb.2.1, hb.2.2, hns, fun H4 e4 => hY H4 e4⟩
        ·
          refine g_nil ?_
          refine g_sum (ns := [(x.size : Int), y.size]) hD ?_
          refine g_I0 ?_
          have e : (1 : Int) + [(x.size : Int), y.size].sum = ((Tr.bin o x y).size : Nat) := by
            simp only [Tr.size, List.sum_cons, List.sum_nil]
            omega
          show Q (.int (1 + [(x.size : Int), y.size].sum)) H2
          rw [e]
          exact hq _ (by walk_at "ex")
end
end PM
/-! part PF -/
namespace PM
open PySem PySem.Spec PyProof.Rows L2 PMH
open Evl (Ex)
/-! ### loops -/
section
variable {K : PySem.W.Frag} {g : TG} {tb : TS} {σ : L2.St} {H : Hp} {tl : TE} {ta : TA} {a : Addr} {xs : List V} {nx bk ct : L2.St → Hp → Prop} {rt : VK}
def FoJ (J : It) (g : TG) (tb : TS) (nx : L2.St → Hp → Prop) (rt : VK) (σ : L2.St) (H1 : Hp) : Prop := tFor (fun _ H go => go J H) g tb ⟨nx, rt, fun _ _ => False, fun _ _ => False⟩ σ H1
def FoT (K : PySem.W.Frag) (g : TG) (tb : TS) (nx : L2.St → Hp → Prop) (rt : VK) (σ : L2.St) : VK := fun x H1 => ∃ a, x = .ref a ∧ (∃ xs, SqT K H1 a xs) ∧ FoJ (Itt K a) g tb nx rt σ H1
def FoL (K : PySem.W.Frag) (g : TG) (tb : TS) (nx : L2.St → Hp → Prop) (rt : VK) (σ : L2.St) : VK := fun x H1 => ∃ a, x = .ref a ∧ (∃ xs, SqL K H1 a xs) ∧ FoJ (Itl K a) g tb nx rt σ H1
def FoR (g : TG) (tb : TS) (nx : L2.St → Hp → Prop) (rt : VK) (σ : L2.St) : List V → Hp → Prop := fun us H1 => ∃ j : Int, us = [.int j] ∧ -(2 ^ 62) ≤ j ∧ j < 2 ^ 62 ∧ FoJ (Itr 0 j.toNat) g tb nx rt σ H1
def FoR2 (g : TG) (tb : TS) (nx : L2.St → Hp → Prop) (rt : VK) (σ : L2.St) : List V → Hp → Prop := fun us H1 => ∃ i j : Int, us = [.int i, .int j] ∧ (-(2 ^ 62) ≤ i ∧ i < 2 ^ 62 ∧ -(2 ^ 62) ≤ j ∧ j < 2 ^ 62) ∧ FoJ (Itr i (j - i).toNat) g tb nx rt σ H1
def FoE (K : PySem.W.Frag) (g : TG) (tb : TS) (nx : L2.St → Hp → Prop) (rt : VK) (σ : L2.St) : List V → Hp → Prop := fun vs H1 => ∃ a xs, vs = [.ref a] ∧ SqL K H1 a xs ∧ FoJ (Ite K a) g tb nx rt σ H1
theorem g_forT (h : tl σ H (FoT K g tb nx rt σ)) : tFor (iTup K tl) g tb ⟨nx, rt, bk, ct⟩ σ H := h
theorem g_forL (h : tl σ H (FoL K g tb nx rt σ)) : tFor (iList K tl) g tb ⟨nx, rt, bk, ct⟩ σ H := h
theorem g_forR (h : ta σ H (FoR g tb nx rt σ)) : tFor (iRng1 ta) g tb ⟨nx, rt, bk, ct⟩ σ H := h
theorem g_forR2 (h : ta σ H (FoR2 g tb nx rt σ)) : tFor (iRng2 ta) g tb ⟨nx, rt, bk, ct⟩ σ H := h
theorem g_forE (h : ta σ H (FoE K g tb nx rt σ)) : tFor (iEnum K ta) g tb ⟨nx, rt, bk, ct⟩ σ H := h
theorem fo_T (src : At H a (.tup xs)) (W : Nat → L2.St → Hp → Prop) (h0 : W 0 σ H) (stay : ∀ i σ H1, W i σ H1 → At H1 a (.tup xs))
    (turn : ∀ i u σ H1, xs[i]? = some u → W i σ H1 → g u σ H1 fun σ2 H2 => tb ⟨W (i + 1), rt, nx, W (i + 1)⟩ σ2 H2) (fin : ∀ σ H1, W xs.length σ H1 → nx σ H1) : FoT K g tb nx rt σ (.ref a) H :=
  ⟨a, rfl, ⟨xs, src.sqT⟩, for_tup (D := ⟨nx, rt, fun _ _ => False, fun _ _ => False⟩) W h0 (fun i σ H1 _ w => (stay i σ H1 w).sqT) turn fin⟩
theorem fo_L (src : At H a (.lst xs)) (W : Nat → L2.St → Hp → Prop) (h0 : W 0 σ H) (stay : ∀ i σ H1, W i σ H1 → At H1 a (.lst xs))
    (turn : ∀ i u σ H1, xs[i]? = some u → W i σ H1 → g u σ H1 fun σ2 H2 => tb ⟨W (i + 1), rt, nx, W (i + 1)⟩ σ2 H2) (fin : ∀ σ H1, W xs.length σ H1 → nx σ H1) : FoL K g tb nx rt σ (.ref a) H :=
  ⟨a, rfl, ⟨xs, src.sqL⟩, for_list (D := ⟨nx, rt, fun _ _ => False, fun _ _ => False⟩) W h0 (fun i σ H1 _ w => (stay i σ H1 w).sqL) turn fin⟩
theorem fo_J {lo : Int} {n : Nat} (W : Nat → L2.St → Hp → Prop) (h0 : W 0 σ H)
    (turn : ∀ i σ H1, i < n → W i σ H1 → g (.int (lo + (i : Int))) σ H1 fun σ2 H2 => tb ⟨W (i + 1), rt, nx, W (i + 1)⟩ σ2 H2) (fin : ∀ σ H1, W n σ H1 → nx σ H1) : FoJ (Itr lo n) g tb nx rt σ H :=
  for_range (D := ⟨nx, rt, fun _ _ => False, fun _ _ => False⟩) W h0 turn fin
theorem fo_R {n : Nat} (small : n ≤ 100000) (W : Nat → L2.St → Hp → Prop) (h0 : W 0 σ H)
    (turn : ∀ i σ H1, i < n → W i σ H1 → g (.int (i : Int)) σ H1 fun σ2 H2 => tb ⟨W (i + 1), rt, nx, W (i + 1)⟩ σ2 H2) (fin : ∀ σ H1, W n σ H1 → nx σ H1) : FoR g tb nx rt σ [.int (n : Int)] H :=
  ⟨n, rfl, by omega, by omega, fo_J W h0 (fun i σ H1 hi w => by
    have e : (0 : Int) + (i : Int) = i := by omega
    rw [e]
    exact turn i σ H1 (by simpa using hi) w) (by simpa using fin)⟩
theorem fo_R' {n : Nat} {j : Int} (ej : j = (n : Int)) (small : n ≤ 100) (W : Nat → L2.St → Hp → Prop) (h0 : W 0 σ H)
    (turn : ∀ i σ H1, i < n → W i σ H1 → g (.int (i : Int)) σ H1 fun σ2 H2 => tb ⟨W (i + 1), rt, nx, W (i + 1)⟩ σ2 H2) (fin : ∀ σ H1, W n σ H1 → nx σ H1) : FoR g tb nx rt σ [.int j] H := by
  subst ej
  exact fo_R (by omega) W h0 turn fin
theorem fo_E (src : At H a (.lst xs)) (W : Nat → L2.St → Hp → Prop) (h0 : W 0 σ H) (stay : ∀ i σ H1, W i σ H1 → At H1 a (.lst xs))
    (turn : ∀ i u p σ H1 H2, xs[i]? = some u → W i σ H1 → H1 p = none → Ex H1 H2 → At H2 p (.tup [.int (i : Int), u]) → H2 = upd H1 p (.tup [.int (i : Int), u]) → g (.ref p) σ H2 fun σ2 H3 => tb ⟨W (i + 1), rt, nx, W (i + 1)⟩ σ2 H3) (fin : ∀ σ H1, W xs.length σ H1 → nx σ H1) : FoE K g tb nx rt σ [.ref a] H := by
  refine ⟨a, xs, rfl, src.sqL, fun i m σ H => m = xs.length - i ∧ i ≤ xs.length ∧ W i σ H, ⟨xs.length, by simp, Nat.zero_le _, h0⟩, ?_⟩
  rintro i m σ H ⟨rfl, hi, p⟩
  have q := (stay i σ H p).sqL (K := K)
  by_cases hlt : i < xs.length
  · have hx : xs[i]? = some xs[i] := List.getElem?_eq_getElem hlt
    refine .inr ⟨⟨xs, xs[i], q, hx⟩, W (i + 1), fun σ' H' p' => ⟨xs.length - (i + 1), by omega, rfl, hlt, p'⟩, fun x H' y => ?_⟩
    obtain ⟨T, x', rfl, hT, rfl, f⟩ := y
    have e2 := f xs q
    rw [hx] at e2
    cases e2
    exact turn i _ T σ H _ hx p hT (ex_new hT) at_new rfl
  · have e : i = xs.length := by omega
    subst e
    exact .inl ⟨⟨xs, q, Nat.le_refl _⟩, fin σ H p⟩
/-- a turn's end: less is left -/
def Wl (W : Nat → L2.St → Hp → Prop) (m : Nat) (σ : L2.St) (H : Hp) : Prop := ∃ m', m' < m ∧ W m' σ H
theorem g_while {c : TT} (W : Nat → L2.St → Hp → Prop) (h0 : ∃ m, W m σ H)
    (turn : ∀ m σ H, W m σ H → c σ H fun b H1 => if b = true then ∃ N : L2.St → Hp → Prop, (∀ σ' H', N σ' H' → ∃ m', m' < m ∧ W m' σ' H') ∧ tb ⟨N, rt, nx, N⟩ σ H1 else nx σ H1) : tWhile c tb ⟨nx, rt, bk, ct⟩ σ H := ⟨W, h0, turn⟩
theorem g_turn {W : Nat → L2.St → Hp → Prop} {m : Nat} (h : tb ⟨Wl W m, rt, nx, Wl W m⟩ σ H) : ∃ N : L2.St → Hp → Prop, (∀ σ' H', N σ' H' → ∃ m', m' < m ∧ W m' σ' H') ∧ tb ⟨N, rt, nx, N⟩ σ H := ⟨Wl W m, fun _ _ h => h, h⟩
end
end PM
/-! part PS -/
namespace PM
open PySem PySem.Spec PyProof.Rows L2 PMH
open Evl (Ex)
/-! ### len(set(names)), names a list of texts, no two alike: one turn of the set's loop as a rule, then by what is still to come -/
section
variable {P : Program} {w : World} {A : Around} {R : Result → Shared → Prop} {E : Value → Shared → Prop}
abbrev NameSet (P : Program) (w : World) (h : Heap) (D : Addr) (ns : List Str) : Prop := h.SetOf (PySem.strKind P w) D (fun k => decide (k ∈ ns)) ns.length
def loopOf (D I : Addr) : Code := .builtin "set.update.loop" ⟨[.ref D, .ref I], []⟩
/-- one turn: ask I; at its end the loop is done, else what came goes into the set and the loop goes on -/
theorem loop_turn {D I : Addr} {s : Shared}
    (ask : wpAny (model P w) A.in1 (pyNext (.ref I)) (fun got s' => match got with
      | none => R (.ok (.ret .none)) s'
      | some v => wpAny (model P w) A.in1 (setAdd D v) (fun _ s2 => codeAny (model P w) A (loopOf D I) R s2) (fun e s2 => R (.error e) s2) s') (fun e s' => R (.error e) s') s) :
    codeAny (model P w) A (loopOf D I) R s :=
  codeAny_builtin PyProof.Rows.F.entry_set_update_loop (by
    rw [Around.under_plainId PyProof.Rows.F.plain_set_update_loop]
    refine wpAny_bind (wpAny_mono ask (fun got s' go => ?_) fun _ _ z => z)
    cases got with
    | none => exact wpAny_pure go
    | some v => exact wpAny_bind (wpAny_holding (wpAny_mono go (fun _ _ z => wpAny_pure ⟨plainId_quiet PyProof.Rows.F.plain_set_update_loop _, z⟩) fun _ _ z => z)))
/-- a new name into a set of names -/
theorem name_in {D : Addr} {s : Shared} {ns : List Str} {x : Str} {t : Tok} {Q : Bool → Shared → Prop} (N : NameSet P w s.heap D ns) (new : x ∉ ns) (few : ns.length < 2000)
    (go : ∀ h', (∀ b o, b ≠ D → s.heap.get? b = some o → h'.get? b = some o) → NameSet P w h' D (ns ++ [x]) → ∀ b, Q b { s with heap := h', toks := s.toks + 1 }) : wpAny (model P w) A (setAdd D (.str x t)) Q E s := by
  have isKey := strKind_is P w x t
  refine wpAny_holding (wpAny_bind ((PySem.strKind P w).pyHash isKey (wpAny_setAddHashed_of (s := { s with toks := s.toks + 1 }) isKey rfl N (Nat.lt_trans (Nat.succ_lt_succ few) (by decide)) fun h' same got => go h' (fun b o off e => (same.2 b off).trans e) ?_ _)))
  refine PyProof.Rows.SetOf_congr got (fun k => ?_) ?_
  · rw [← Bool.decide_or]
    exact decide_eq_decide.mpr (by rw [List.mem_append, List.mem_singleton])
  · rw [if_neg (fun z => new (of_decide_eq_true z)), List.length_append, List.length_singleton]
/-- the loop, by the names still to come -/
theorem loop_names {I D : Addr} {fp wr : List Addr} {G : Array GenState → Array GenState → Prop} {n : Nat} {Is : Nat → Value → Prop} {St : Nat → Shared → Prop} (W : WalksS P w A.in1 I fp wr G n Is St) (off : D ∉ fp) {all : List Str} (all_n : all.length = n)
    (unlike : all.Nodup) (few : n ≤ 1000) (reads : ∀ (i : Nat) (v : Value), Is i v → ∃ x t, all[i]? = some x ∧ v = .str x t) {s₀ : Shared} (fin : ∀ s', Moved (D :: wr) G s₀ s' → NameSet P w s'.heap D all → R (.ok (.ret .none)) s') :
    ∀ (more had : List Str) (s : Shared), had ++ more = all → St had.length s → Moved (D :: wr) G s₀ s → NameSet P w s.heap D had → codeAny (model P w) A (loopOf D I) R s
  | [], had, s, cut, st, mv, N => by
    obtain rfl : had = all := by simpa using cut
    subst all_n
    exact loop_turn (W.done s _ _ st fun s' m => fin s' (mv.trans W.gtrans (m.mono fun _ z => .tail _ z)) (SetOf_kept m (fun z => off (W.sub _ z)) N))
  | x :: more, had, s, cut, st, mv, N => by
    have small : had.length < n := by rw [← all_n, ← cut, List.length_append]; exact Nat.lt_add_of_pos_right (Nat.succ_pos _)
    refine loop_turn (W.item _ s _ _ small st fun v s' is st' m => ?_)
    obtain ⟨y, t, at_, rfl⟩ := reads _ _ is
    obtain rfl : x = y := by
      rw [← cut, List.getElem?_append_right (Nat.le_refl _), Nat.sub_self] at at_
      exact Option.some.inj at_
    have new : x ∉ had := fun z => (List.nodup_append.mp (cut ▸ unlike)).2.2 x z x (.head _) rfl
    refine name_in (SetOf_kept m (fun z => off (W.sub _ z)) N) new (Nat.lt_of_lt_of_le small (Nat.le_trans few (by decide))) fun h' rest N' _ => ?_
    refine loop_names W off all_n unlike few reads fin more (had ++ [x]) _ (by simpa using cut) ?_ ?_ N'
    · rw [List.length_append]
      exact W.frame _ s' _ _ st' (Nat.le_succ _) fun b z o e => rest b o (fun q => off (q ▸ z)) e
    · exact (mv.trans W.gtrans (m.mono fun _ z => .tail _ z)).then_heap (Nat.le_succ _) fun b o z e => rest b o (fun q => z (q ▸ .head _)) e
where
  SetOf_kept {D : Addr} {wr : List Addr} {G : Array GenState → Array GenState → Prop} {s s' : Shared} {ns : List Str} (m : Moved wr G s s') (off : D ∉ wr) (N : NameSet P w s.heap D ns) : NameSet P w s'.heap D ns := by
    obtain ⟨o, es, ep, t, there, rest⟩ := N
    exact ⟨o, es, ep, t, m.heap D o off there, rest⟩
end
/-! ### T(a) where the making and the beginning are known as codes -/
section
variable {P : Program} {w : World} {A : Around} {E : Value → Shared → Prop} {s : Shared}
theorem made_begun {T newId iniId : String} {a : Value} {Q Mid : Value → Shared → Prop} (ft : TypeCalled T newId iniId) (goodCall : checkTypeCall T ⟨[a], []⟩ = pure ())
    (new : codeAny (model P w) A.in1 (.call (.builtin newId) ⟨[.type T, a], []⟩) (wants Mid E) s)
    (ini : ∀ ob s1, Mid ob s1 → s1.TypeIs ob T ∧ codeAny (model P w) A.in1 (.call (.builtin iniId) ⟨[ob, a], []⟩) (wants (fun z s2 => z = .none ∧ Q ob s2) E) s1) : wpAny (model P w) A (call (.type T) [a]) Q E s := by
  have ⟨_, _, order⟩ := ft.mro
  have makes := ft.made
  have below := ft.sub
  have noType := ft.notType
  have may := ft.canCreate
  have initL := ft.init.lookup
  refine wpAny_call (codeAny_of_tree (wpAny_pure ⟨Code.quiet_builtin _ (by decide +kernel), codeAny_builtin PySem.F.entry_type_call ?_⟩))
  rw [Around.under_plain (weight_type_call_type T [a] []) rfl]
  wp_walk
  refine codeAny_mono new fun r s1 q => ?_
  match r, q with
  | .error e, q => exact q
  | .ok (.ret ob), q =>
    obtain ⟨isT, run⟩ := ini ob s1 q
    have initB := ft.init.bind ob
    wp_walk using wpAny_isInstance isT below
    refine codeAny_mono run fun r2 s2 q2 => ?_
    match r2, q2 with
    | .error e, q2 => exact q2
    | .ok (.ret _), ⟨rfl, q2⟩ =>
      wp_walk
      exact q2
/-- set(l), l a list of unlike names: a set of them at the next free place -/
theorem set_of_names {l : Addr} {vals : Array Value} {ns : List Str} {Q : Value → Shared → Prop} (calm : A.handled = none) (isL : s.heap.IsList l vals) (are : PyProof.Rows.StrsAre vals.toList ns) (unlike : ns.Nodup) (few : ns.length ≤ 1000)
    (go : ∀ h' tk, NameSet P w h' s.heap.objs.size ns → (∀ b o, s.heap.get? b = some o → h'.get? b = some o) → Q (.ref s.heap.objs.size) { s with heap := h', toks := tk }) : wpAny (model P w) A (call (.type "set") [.ref l]) Q E s := by
  have len : ns.length = vals.size := (PyProof.Rows.StrsAre.len_eq are).symm.trans Array.length_toList
  refine made_begun (Mid := fun ob s1 => ∃ bit, ob = .ref s.heap.objs.size ∧ s1 = { s with heap := s.heap.push { cls := .type "set", data := .set #[] 0 (.fresh 0 0 bit) } }) PySem.F.called_set (PySem.F.typeCall_set_1 _) (code_set_new_1 _ fun bit => ⟨bit, rfl, rfl⟩) ?_
  rintro _ _ ⟨bit, rfl, rfl⟩
  have fresh : (s.heap.push { cls := .type "set", data := .set #[] 0 (.fresh 0 0 bit) }).get? s.heap.objs.size = some { cls := .type "set", data := .set #[] 0 (.fresh 0 0 bit) } := Heap.get?_push_size _ rfl
  have isT : Shared.TypeIs { s with heap := s.heap.push { cls := .type "set", data := .set #[] 0 (.fresh 0 0 bit) } } (.ref s.heap.objs.size) "set" := ⟨_, fresh, rfl⟩
  refine ⟨isT, codeAny_call_builtin PySem.F.called_set.init.plain PySem.F.entry_set_init (check_set_init_1 isT ?_)⟩
  have isL1 := isL.push { cls := .type "set", data := .set #[] 0 (.fresh 0 0 bit) }
  have noSet := PySem.F.sub_list_set
  have noFrozen := PySem.F.sub_list_frozenset
  have noDict : (Value.type "list" == Value.type "dict") = false := by decide
  unfold Builtin.«set.__init__» noKeywords Builtin.Frozenset.updateFrom
  wp_walk using wpAny_typeOf isL1.typeIs, wpAny_isInstance isL1.typeIs noSet, wpAny_isInstance isL1.typeIs noFrozen, wpAny_pyIter_list isL1
  have below : l < s.heap.objs.size := let ⟨_, there, _⟩ := isL; Heap.lt_size there
  have next : (s.heap.push { cls := .type "set", data := .set #[] 0 (.fresh 0 0 bit) }).objs.size = s.heap.objs.size + 1 := Heap.size_push ..
  have apartI : s.heap.objs.size ≠ (s.heap.push { cls := .type "set", data := .set #[] 0 (.fresh 0 0 bit) }).objs.size := next ▸ Nat.ne_of_lt (Nat.lt_succ_self _)
  have apartL : l ≠ (s.heap.push { cls := .type "set", data := .set #[] 0 (.fresh 0 0 bit) }).objs.size := next ▸ Nat.ne_of_lt (Nat.lt_succ_of_lt below)
  have apart : s.heap.objs.size ∉ [(s.heap.push { cls := .type "set", data := .set #[] 0 (.fresh 0 0 bit) }).objs.size, l] := fun z =>
    (List.mem_cons.mp z).elim apartI fun z => Nat.ne_of_gt below (List.mem_singleton.mp z)
  have start : NameSet P w (s.heap.push { cls := .type "set", data := .set #[] 0 (.fresh 0 0 bit) }) s.heap.objs.size [] := PyProof.Rows.SetOf_congr ((PyProof.Rows.setObjOf_fresh (knd := PySem.strKind P w) bit).setOf fresh (by decide)) (fun _ => rfl) rfl
  refine loop_names (s₀ := { s with heap := (s.heap.push { cls := .type "set", data := .set #[] 0 (.fresh 0 0 bit) }).push { cls := .type "list_iterator", data := .fields #[.ref l, .int 0 0] } })
    (Walks.list (show A.in1.in1.in1.handled = none from calm) _ l apartL vals).toS apart len unlike (by omega) (fun i v at_ => ?_) (fun s' mv N => ?_) ns [] _ rfl ⟨⟨_, Heap.get?_push_size _ rfl, rfl, rfl⟩, isL1.push _⟩ (Moved.refl fun _ => rfl) ?_
  · obtain ⟨t, e⟩ := SS.strs_at are i v (by rw [Array.getElem?_toList]; exact at_)
    have small : i < ns.length := by rw [len]; exact (Array.getElem?_eq_some_iff.mp at_).1
    exact ⟨ns[i], t, List.getElem?_eq_getElem small, by rw [e, List.getD_eq_getElem?_getD, List.getElem?_eq_getElem small]; rfl⟩
  · obtain ⟨h', g', d', tk', os'⟩ := s'
    obtain ⟨kept, rfl, rfl, rfl, -⟩ := mv
    refine wpAny_pure (wpAny_pure ⟨rfl, go h' tk' N fun b o e => kept b o (fun z => ?_) (Heap.get?_push_of_some _ (Heap.get?_push_of_some _ e))⟩)
    have old : b < s.heap.objs.size := Heap.lt_size e
    exact (List.mem_cons.mp z).elim (Nat.ne_of_lt old) fun z => Nat.ne_of_lt (Nat.lt_succ_of_lt old) ((List.mem_singleton.mp z).trans next)
  · obtain ⟨o, es, ep, t, there, rest⟩ := start
    exact ⟨o, es, ep, t, Heap.get?_push_of_some _ there, rest⟩
end
section
variable {X : Cx}
def tLenNs (K : PySem.W.Frag) (ta : TE) : TE := fun σ H Q => ta σ H fun x H1 => ∃ l, ∃ xs : List Str, x = .ref l ∧ SqL K H1 l (xs.map V.str) ∧ xs.Nodup ∧ xs.length ≤ 1000 ∧ Q (.int xs.length) H1
/-- the set goes by unseen: it stands behind all that is borne -/
theorem len_names {pins : List (Addr × Obj)} {σ : L2.St} {H : Hp} {s : Shared} {l : Addr} {ns : List Str} {Q : VK} (calm : X.calm = true) (I : Inv X pins σ H s) (is : SqL X.K H l (ns.map V.str)) (unlike : ns.Nodup) (few : ns.length ≤ 1000) (q : Q (.int ns.length) H) :
    wpAny (model X.prog X.w) X.A (call (.type "set") [.ref l]) (fun v s' => wpAny (model X.prog X.w) X.A (call (.builtin "len") [v]) (EP X pins σ Q) X.xe s') X.xe s := by
  obtain ⟨vals, r, plain, -⟩ := I.list is
  refine set_of_names (I.ok.hd calm) plain.isList (by simpa using strsAre_of r) unlike few fun h' tk N rest => ?_
  have I' : Inv X pins σ H { s with heap := h', toks := tk } := I.kept rest
  obtain ⟨o, es, ep, t, there, exact_, dat, -, -, -, fits, size⟩ := N
  refine call_len_set there exact_ dat fits ?_ ⟨.int ns.length, H, I'.tok _, ⟨_, by rw [size]⟩, q⟩
  rw [size]
  omega
theorem pe_lenNs {a : Expr} {ta : TE} {p p2 q pos : Pos} (hc : X.calm = true) (hg : Gl X "len") (hm : X.mg "len" = none) (hg2 : Gl X "set") (hm2 : X.mg "set" = none) (ha : PE X a ta)
    (na : starEach [a] X.env = (false, eval a X.env) :: starEach [] X.env := by rfl) : PE X (.Call (.Name "len" p) [.Call (.Name "set" p2) [a] [] q] [] pos) (tLenNs X.K ta) where
  run pins s σ H Q I h := by
    refine Call_ (ld_blt I hg hm PySem.boot_len (PyProof.Rows.callWith_builtin1 (PyProof.Rows.args_cons (Call_ (ld_blt I hg2 hm2 PyProof.Rows.boot_set ?_)) rfl) rfl rfl))
    refine PyProof.Rows.callWith_type1 (PyProof.Rows.args_cons (thn (ha.run pins s σ H _ I h) fun v s1 ⟨x, H1, I1, r, l, ns, is, sq, unlike, few, go⟩ => PyProof.Rows.args_nil ?_) na) na rfl
    subst is
    obtain rfl : v = .ref l := r
    exact wpAny_mono (len_names hc I1 sq unlike few go) (fun _ _ z => PyProof.Rows.args_nil z) fun _ _ z => z
end
end PM
/-! part F3 -/
namespace PM
open PySem PySem.Spec PyProof.Rows L2 PMH
open Evl (Ex)

local macro_rules | `(tactic| walk_at "ex") => `(tactic| first
  | with_reducible assumption
  | with_reducible exact Evl.Ex.refl _
  | (refine Evl.Ex.trans ?_ (by with_reducible assumption); walk_at "ex"))
local macro_rules | `(tactic| walk_at "hx") => `(tactic| first
  | with_reducible assumption
  | (refine At.ex (by with_reducible assumption) ?_; walk_at "ex")
  | (refine Fz.tx (by with_reducible assumption) ?_; walk_at "tx")
  | (refine TrAt.ex (by with_reducible assumption) ?_; walk_at "ex")
  | (refine MlAt.tx ?_ (by with_reducible assumption); walk_at "tx")
  | (refine PlAt.tx ?_ (by with_reducible assumption); walk_at "tx")
  | (refine LtAt.tx ?_ (by with_reducible assumption); walk_at "tx")
  | (refine GvAt.tx ?_ (by with_reducible assumption); walk_at "tx")
  | (refine WsAt.tx ?_ (by with_reducible assumption); walk_at "tx")
  | (refine RwAt.tx ?_ _ _ (by with_reducible assumption); walk_at "tx")
  | (refine RwsAt.tx ?_ _ _ (by with_reducible assumption); walk_at "tx")
  | (refine RuAt.tx ?_ (by with_reducible assumption); walk_at "tx")
  | (refine PrAt.tx ?_ (by with_reducible assumption); walk_at "tx"))
local macro_rules | `(tactic| walk_at "num") => `(tactic| first
  | with_reducible assumption
  | decide
  | exact Or.inl ⟨by omega, by omega⟩
  | exact Or.inr ⟨by omega, by omega⟩
  | (refine ⟨?_, ?_⟩ <;> omega)
  | (show (0 : Int) < _; omega))
local macro_rules | `(tactic| walk_at "tx") => `(tactic| first
  | with_reducible assumption
  | (refine Tx.ex ?_; walk_at "ex"))
local macro_rules | `(tactic| walk_at "sz") => `(tactic| first
  | with_reducible assumption
  | omega
  | (refine Evl.sz_of ?_; omega)
  | (refine Evl.sz_lt ?_; omega))
local macro_rules | `(tactic| walk_at "fl") => `(tactic| first
  | rfl
  | decide +kernel)

/-! ### is_tree, gather, names_in, is_tree_of -/
def trK (ks : List Nm) : List (Key × V) := ks.map fun k => (Sum.inr k, V.bl true)
theorem putK_trK (ks : List Nm) (k : Nm) : ∃ ks', putK (trK ks) (Sum.inr k) (.bl true) = trK ks' ∧ (∀ x ∈ ks', x ∈ ks ∨ x = k) ∧ ks'.length ≤ ks.length + 1 := by
  unfold putK
  split
  · refine ⟨ks, ?_, fun x h => .inl h, by omega⟩
    unfold trK
    rw [List.map_map]
    refine List.map_congr_left fun x _ => ?_
    show (if (Sum.inr x : Key) = Sum.inr k then ((Sum.inr x : Key), V.bl true) else (Sum.inr x, V.bl true)) = _
    split <;> rfl
  · refine ⟨ks ++ [k], by unfold trK; rw [List.map_append]; rfl, fun x h => ?_, by simp⟩
    rcases List.mem_append.mp h with h | h
    · exact .inl h
    · exact .inr (by simpa using h)
theorem sum_take (ds : List Tr) (i : Nat) : ((ds.take i).map Tr.size).sum ≤ (ds.map Tr.size).sum := by
  have e : ds = ds.take i ++ ds.drop i := (List.take_append_drop i ds).symm
  have e2 : (ds.map Tr.size).sum = ((ds.take i).map Tr.size).sum + ((ds.drop i).map Tr.size).sum := by
    rw [← List.sum_append, ← List.map_append, ← e]
  omega
theorem Tr.size_pos (t : Tr) : 1 ≤ t.size := by cases t <;> simp [Tr.size] <;> omega
section
variable {P : Program} {w : World} {K : PySem.W.Frag} {mg : Str → Option Value} {base : Heap}
def sp_is_tree : Sp := fun vs H Q _ => ∃ (t : Tr) (u : V) (ns : List Nm), vs = [u] ∧ TrAt t u H ∧ TrOk ns t ∧ (∀ n ∈ ns, n ∈ nms) ∧ Ret (.bl true) H Q
abbrev N_is_tree : List Str := ["thing"]
theorem sc_is_tree : FnScope N_is_tree ["thing"] (defScope s_is_tree) := ⟨rfl, rfl, rfl, by decide +kernel, rfl, by decide +kernel, by decide +kernel⟩
theorem ok_is_tree (T : TX w K mg)  : Fn P w K mg base CX0 (6) "is_tree" ["thing"] (sp_is_tree) := by
  have f_parts_of := ok_parts_of (P := P) (base := base) T (ok_is_name T) (ok_is_number T) (ok_trees_in T) 3
  obtain ⟨fd, F⟩ := T.d_is_tree
  refine mk_fn F T.g_is_tree sc_is_tree (fun vs H Q E h => by obtain ⟨_, _, _, rfl, _⟩ := h; rfl) (fun _ _ _ _ _ _ us hl => match us, hl with | [_], _ => rfl) (fun cdv A outer s H vs Q E hr h => ?_)
  obtain ⟨t, u, ns, rfl, ht, hk, hns, hq⟩ := h
  have hu := hu_of hr
  refine ⟨(tRet (tOp rLeI (tCall (sp_parts_of 3) [] E0 (tCons (tVar 0) (tCons (tC (.int 6)) tNil))) (tC (.int 30)))),
      (pss_one (ps_ret (pe_cmpR op_le (f_parts_of.ex.elim fun _ q => q.elim fun _ q => pe_call q.1 (hr.mono (by omega)) (by rfl) q.2.1 q.2.2.1 q.2.2.2 .nil pass0 (pa_cons (pv 0) (pa_cons (pe_gint (by rfl) T.k_MOST_DEEP) pa_nil))) (pe_gint (by rfl) T.k_MOST_PARTS) (nomark _)))), ?_⟩
  refine g_start (σ' := [some _]) rfl ?_
  refine g_ret (g_op (g_call (g_cons (g_v0 (g_cons (g_c (g_nil ?_)))))))
  refine ⟨t, u, 6, ns, rfl, ht, hk.2.1, by have := hk.2.1; omega, hk.1, hns, fun H1 e1 => ?_⟩
  refine g_c (g_I0 ?_)
  have e : decide ((t.size : Int) ≤ 30) = true := decide_eq_true (by have := hk.2.2; omega)
  show Q (.bl (decide ((t.size : Int) ≤ 30))) H1
  rw [e]
  exact hq _ e1
def sp_gather (d : Nat) : Sp := fun vs H Q _ => ∃ (t : Tr) (u : V) (a : Addr) (ks ns : List Nm), vs = [u, .ref a] ∧ TrAt t u H ∧ t.deep ≤ d ∧ t.ok ns ∧ At H a (.dK (trK ks)) ∧ ks.length + t.size ≤ 1000 ∧
  ∀ H' ks', Kp [a] H H' → At H' a (.dK (trK ks')) → (∀ k ∈ ks', k ∈ ks ∨ k ∈ ns) → ks'.length ≤ ks.length + t.size → Q .non H'
abbrev N_gather : List Str := ["tree", "found", "part"]
theorem sc_gather : FnScope N_gather ["tree", "found"] (defScope s_gather) := ⟨rfl, rfl, rfl, by decide +kernel, rfl, by decide +kernel, by decide +kernel⟩
theorem ok_gather (T : TX w K mg)  (d : Nat) : Fn P w K mg base CX0 (d + 2) "gather" ["tree", "found"] (sp_gather d) := by
  have f_trees_in := ok_trees_in (P := P) (base := base) T
  induction d with
  | zero =>
    obtain ⟨fd, F⟩ := T.d_gather
    refine mk_fn F T.g_gather sc_gather (fun vs H Q E h => by obtain ⟨_, _, _, _, _, rfl, _⟩ := h; rfl) (fun _ _ _ _ _ _ us hl => match us, hl with | [_, _], _ => rfl) (fun cdv A outer s H vs Q E hr h => ?_)
    obtain ⟨t, u, a, ks, ns, rfl, ht, hd, hk, ha, hs, hq⟩ := h
    exact absurd hd (by have := t.deep_pos; omega)
  | succ d f_gather =>
    obtain ⟨fd, F⟩ := T.d_gather
    refine mk_fn F T.g_gather sc_gather (fun vs H Q E h => by obtain ⟨_, _, _, _, _, rfl, _⟩ := h; rfl) (fun _ _ _ _ _ _ us hl => match us, hl with | [_, _], _ => rfl) (fun cdv A outer s H vs Q E hr h => ?_)
    obtain ⟨t, u, a, ks, ns, rfl, ht, hd, hk, ha, hs, hq⟩ := h
    have hu := hu_of hr
    refine ⟨(tIfS (tTest (tOp rEq (tOp (rIxT K) (tVar 0) (tC (.int 0))) (tC (.str "box")))) (sDPut (tVar 1) (tOp (rIxT K) (tVar 0) (tC (.int 1))) (tC (.bl true))) (tIfS (tTest (tOp rGtI (tCall sp_trees_in [] E0 (tCons (tOp (rIxT K) (tVar 0) (tC (.int 0))) tNil)) (tC (.int 0)))) (tFor (iTup K (tSl (rSlA K) (tVar 0) (tPart (tC (.int 1))) tNoPart)) (gName 2) (tDrop (tCall (sp_gather d) [] E0 (tCons (tVar 2) (tCons (tVar 1) tNil))))) tNext)),
      (pss_one (ps_if (pt_cmpR op_eq (pe_ix ix_tup (pv 0) pe_int (fun _ _ => rfl)) pe_str (nomark _)) (pss_one (ps_dput hu (pv 1) (pe_ix ix_tup (pv 0) pe_int (fun _ _ => rfl)) pe_bl rfl)) (pss_one (ps_if (pt_cmpR op_gt (f_trees_in.ex.elim fun _ q => q.elim fun _ q => pe_call q.1 (hr.mono (by omega)) (by rfl) q.2.1 q.2.2.1 q.2.2.2 .nil pass0 (pa_cons (pe_ix ix_tup (pv 0) pe_int (fun _ _ => rfl)) pa_nil)) pe_int (nomark _)) (pss_one (ps_for PassesOwn.never rfl (pi_tup (pe_slice sl_tupA (pv 0) (po_some pe_int) po_none)) (pg_name (i := 2) sc_gather.nd rfl (Or.inl rfl)) (pss_one (ps_expr (f_gather.ex.elim fun _ q => q.elim fun _ q => pe_call q.1 (hr.mono (by omega)) (by rfl) q.2.1 q.2.2.1 q.2.2.2 .nil pass0 (pa_cons (pv 2) (pa_cons (pv 1) pa_nil))))))) pss_nil)))), ?_⟩
    refine g_start (σ' := [some _, some _, none]) rfl ?_
    cases t with
    | num n =>
      obtain ⟨c, rfl, hc⟩ := ht
      refine g_ifs (g_tst (g_op (g_op (g_v0 (g_c (g_ixT (by walk_at "hx") (show atI _ _ = some _ from rfl) (g_c (g_eqS (g_k (g_ifD0 (by decide +kernel) (g_ifs (g_tst (g_op (g_call (g_cons (g_op (g_v0 (g_c (g_ixT (by walk_at "hx") (show atI _ _ = some _ from rfl) (g_nil ?_))))))))))))))))))))
      refine ⟨.num n, rfl, (fun b => by intro q; cases q), ?_⟩
      refine g_c (g_I0 (g_k (g_ifD0 (by simp [Tr.ar]) (g_next ?_))))
      exact hq H ks Kp.refl ha (fun k h => .inl h) (by omega)
    | box n =>
      obtain ⟨c, rfl, hc⟩ := ht
      refine g_ifs (g_tst (g_op (g_op (g_v0 (g_c (g_ixT (by walk_at "hx") (show atI _ _ = some _ from rfl) (g_c (g_eqS (g_k (g_ifD1 rfl (g_dput (g_c (g_v1 (g_op (g_v0 (g_c (g_ixT (by walk_at "hx") (show atI _ _ = some _ from rfl) ?_)))))))))))))))))
      obtain ⟨ks', e1, e2, e3⟩ := putK_trK ks n
      refine g_dputS ha (by unfold trK; rw [List.length_map]; exact Evl.sz_lt (by have := hs; omega)) ?_
      rw [e1]

      refine hq _ ks' (kp_upd (by simp)) at_new (fun k h => ?_) e3
      rcases e2 k h with h | h
      · exact .inl h
      · exact .inr (h ▸ hk)
    | load =>
      obtain ⟨c, rfl, hc⟩ := ht
      refine g_ifs (g_tst (g_op (g_op (g_v0 (g_c (g_ixT (by walk_at "hx") (show atI _ _ = some _ from rfl) (g_c (g_eqS (g_k (g_ifD0 (by decide +kernel) (g_ifs (g_tst (g_op (g_call (g_cons (g_op (g_v0 (g_c (g_ixT (by walk_at "hx") (show atI _ _ = some _ from rfl) (g_nil ?_))))))))))))))))))))
      refine ⟨.load, rfl, (fun b => by intro q; cases q), ?_⟩
      refine g_c (g_I0 (g_k (g_ifD0 (by simp [Tr.ar]) (g_next ?_))))
      exact hq H ks Kp.refl ha (fun k h => .inl h) (by omega)
    | now =>
      obtain ⟨c, rfl, hc⟩ := ht
      refine g_ifs (g_tst (g_op (g_op (g_v0 (g_c (g_ixT (by walk_at "hx") (show atI _ _ = some _ from rfl) (g_c (g_eqS (g_k (g_ifD0 (by decide +kernel) (g_ifs (g_tst (g_op (g_call (g_cons (g_op (g_v0 (g_c (g_ixT (by walk_at "hx") (show atI _ _ = some _ from rfl) (g_nil ?_))))))))))))))))))))
      refine ⟨.now, rfl, (fun b => by intro q; cases q), ?_⟩
      refine g_c (g_I0 (g_k (g_ifD0 (by simp [Tr.ar]) (g_next ?_))))
      exact hq H ks Kp.refl ha (fun k h => .inl h) (by omega)
    | pick x y z =>
      obtain ⟨c, u1, u2, u3, rfl, hc, h1, h2, h3⟩ := ht
      simp only [Tr.deep] at hd
      obtain ⟨k1, k2, k3⟩ := hk
      refine g_ifs (g_tst (g_op (g_op (g_v0 (g_c (g_ixT (by walk_at "hx") (show atI _ _ = some _ from rfl) (g_c (g_eqS (g_k (g_ifD0 (by decide +kernel) (g_ifs (g_tst (g_op (g_call (g_cons (g_op (g_v0 (g_c (g_ixT (by walk_at "hx") (show atI _ _ = some _ from rfl) (g_nil ?_))))))))))))))))))))
      refine ⟨.pick x y z, rfl, (fun b => by intro q; cases q), ?_⟩
      refine g_c (g_I0 (g_k (g_ifD1 (by simp [Tr.ar]) (g_forT (g_sl (g_v0 (g_po (g_c (g_poI (g_po0 ?_))))))))))
      refine g_slT hc (fun z => absurd (show (1 : Nat) = 0 from z.1) (by decide)) (fun p H1 np e1 hp => ?_)
      have hp' : At H1 p (.tup [u1, u2, u3]) := hp
      have hal : Al TrAt [x, y, z] [u1, u2, u3] H1 := ⟨u1, _, rfl, by walk_at "hx", u2, _, rfl, by walk_at "hx", u3, _, rfl, by walk_at "hx", rfl⟩
      have hok : ∀ t ∈ [x, y, z], t.deep ≤ d ∧ t.ok ns := by
        intro t ht
        rcases List.mem_cons.mp ht with rfl | ht
        · exact ⟨by omega, k1⟩
        rcases List.mem_cons.mp ht with rfl | ht
        · exact ⟨by omega, k2⟩
        rcases List.mem_cons.mp ht with rfl | ht
        · exact ⟨by omega, k3⟩
        cases ht
      have ha1 : At H1 a (.dK (trK ks)) := by walk_at "hx"
      have hpa : p ≠ a := hp'.ne ha1 (by intro z; cases z)

      refine fo_T hp' (fun i σ' H' => (∃ x, σ' = [some (.ref c), some (.ref a), x]) ∧ ∃ ks', Kp [a] H1 H' ∧ At H' a (.dK (trK ks')) ∧ (∀ k ∈ ks', k ∈ ks ∨ k ∈ ns) ∧ ks'.length ≤ ks.length + ((List.take i [x, y, z]).map Tr.size).sum)
        ⟨⟨_, rfl⟩, ks, Kp.refl, ha1, fun k h => .inl h, by simp⟩ (fun i σ' H' w => ?_) (fun i u σ' H' hi w => ?_) (fun σ' H' w => ?_)
      · obtain ⟨_, ks', w1, _⟩ := w
        exact hp'.kp w1 (by simpa using hpa)
      · obtain ⟨⟨x0, rfl⟩, ks', w1, w2, w3, w4⟩ := w
        obtain ⟨t, ht, hR⟩ := hal.get hi
        obtain ⟨g1, g2⟩ := hok t (List.mem_of_getElem? ht)
        have hR' : TrAt t u H' := hR.tx (tx_kp w1 (by
          intro b hb xs f q
          simp only [List.mem_singleton] at hb
          subst hb
          rw [ha1] at q
          cases q
          exact f))
        have hsz : ((List.take (i + 1) [x, y, z]).map Tr.size).sum = ((List.take i [x, y, z]).map Tr.size).sum + t.size := by
          rw [take_at ht]
          simp
        have hle : ((List.take (i + 1) [x, y, z]).map Tr.size).sum ≤ (List.map Tr.size [x, y, z]).sum := sum_take [x, y, z] (i + 1)
        have hall : (List.map Tr.size [x, y, z]).sum + 1 ≤ Tr.size (.pick x y z) := by
          simp only [Tr.size, List.map_cons, List.map_nil, List.sum_cons, List.sum_nil]
          omega
        refine g_n2 (g_drop (g_call (g_cons (g_v2 (g_cons (g_v1 (g_nil ?_)))))))
        refine ⟨t, u, a, ks', ns, rfl, hR', g1, g2, w2, by omega, fun H4 ks4 q1 q2 q3 q4 => ?_⟩
        refine ⟨⟨_, rfl⟩, ks4, w1.trans q1, q2, fun k h => ?_, by omega⟩
        rcases q3 k h with h | h
        · exact w3 k h
        · exact .inr h
      · obtain ⟨_, ks', w1, w2, w3, w4⟩ := w
        have hall : (List.map Tr.size [x, y, z]).sum + 1 ≤ Tr.size (.pick x y z) := by
          simp only [Tr.size, List.map_cons, List.map_nil, List.sum_cons, List.sum_nil]
          omega
        have hle := sum_take [x, y, z] [u1, u2, u3].length
        exact hq H' ks' ((kp_ex e1).trans w1) w2 w3 (by omega)
    | bin o x y =>
      obtain ⟨c, u1, u2, rfl, hc, h1, h2⟩ := ht
      simp only [Tr.deep] at hd
      obtain ⟨k1, k2⟩ := hk
      refine g_ifs (g_tst (g_op (g_op (g_v0 (g_c (g_ixT (by walk_at "hx") (show atI _ _ = some _ from rfl) (g_c (g_eqS (g_k (g_ifD0 (op_box o) (g_ifs (g_tst (g_op (g_call (g_cons (g_op (g_v0 (g_c (g_ixT (by walk_at "hx") (show atI _ _ = some _ from rfl) (g_nil ?_))))))))))))))))))))
      refine ⟨.bin o x y, rfl, (fun b => by intro q; cases q), ?_⟩
      refine g_c (g_I0 (g_k (g_ifD1 (by simp [Tr.ar]) (g_forT (g_sl (g_v0 (g_po (g_c (g_poI (g_po0 ?_))))))))))
      refine g_slT hc (fun z => absurd (show (1 : Nat) = 0 from z.1) (by decide)) (fun p H1 np e1 hp => ?_)
      have hp' : At H1 p (.tup [u1, u2]) := hp
      have hal : Al TrAt [x, y] [u1, u2] H1 := ⟨u1, _, rfl, by walk_at "hx", u2, _, rfl, by walk_at "hx", rfl⟩
      have hok : ∀ t ∈ [x, y], t.deep ≤ d ∧ t.ok ns := by
        intro t ht
        rcases List.mem_cons.mp ht with rfl | ht
        · exact ⟨by omega, k1⟩
        rcases List.mem_cons.mp ht with rfl | ht
        · exact ⟨by omega, k2⟩
        cases ht
      have ha1 : At H1 a (.dK (trK ks)) := by walk_at "hx"
      have hpa : p ≠ a := hp'.ne ha1 (by intro z; cases z)

      refine fo_T hp' (fun i σ' H' => (∃ x, σ' = [some (.ref c), some (.ref a), x]) ∧ ∃ ks', Kp [a] H1 H' ∧ At H' a (.dK (trK ks')) ∧ (∀ k ∈ ks', k ∈ ks ∨ k ∈ ns) ∧ ks'.length ≤ ks.length + ((List.take i [x, y]).map Tr.size).sum)
        ⟨⟨_, rfl⟩, ks, Kp.refl, ha1, fun k h => .inl h, by simp⟩ (fun i σ' H' w => ?_) (fun i u σ' H' hi w => ?_) (fun σ' H' w => ?_)
      · obtain ⟨_, ks', w1, _⟩ := w
        exact hp'.kp w1 (by simpa using hpa)
      · obtain ⟨⟨x0, rfl⟩, ks', w1, w2, w3, w4⟩ := w
        obtain ⟨t, ht, hR⟩ := hal.get hi
        obtain ⟨g1, g2⟩ := hok t (List.mem_of_getElem? ht)
        have hR' : TrAt t u H' := hR.tx (tx_kp w1 (by
          intro b hb xs f q
          simp only [List.mem_singleton] at hb
          subst hb
          rw [ha1] at q
          cases q
          exact f))
        have hsz : ((List.take (i + 1) [x, y]).map Tr.size).sum = ((List.take i [x, y]).map Tr.size).sum + t.size := by
          rw [take_at ht]
          simp
        have hle : ((List.take (i + 1) [x, y]).map Tr.size).sum ≤ (List.map Tr.size [x, y]).sum := sum_take [x, y] (i + 1)
        have hall : (List.map Tr.size [x, y]).sum + 1 ≤ Tr.size (.bin o x y) := by
          simp only [Tr.size, List.map_cons, List.map_nil, List.sum_cons, List.sum_nil]
          omega
        refine g_n2 (g_drop (g_call (g_cons (g_v2 (g_cons (g_v1 (g_nil ?_)))))))
        refine ⟨t, u, a, ks', ns, rfl, hR', g1, g2, w2, by omega, fun H4 ks4 q1 q2 q3 q4 => ?_⟩
        refine ⟨⟨_, rfl⟩, ks4, w1.trans q1, q2, fun k h => ?_, by omega⟩
        rcases q3 k h with h | h
        · exact w3 k h
        · exact .inr h
      · obtain ⟨_, ks', w1, w2, w3, w4⟩ := w
        have hall : (List.map Tr.size [x, y]).sum + 1 ≤ Tr.size (.bin o x y) := by
          simp only [Tr.size, List.map_cons, List.map_nil, List.sum_cons, List.sum_nil]
          omega
        have hle := sum_take [x, y] [u1, u2].length
        exact hq H' ks' ((kp_ex e1).trans w1) w2 w3 (by omega)
end
end PM
/-! part F4 -/
namespace PM
open PySem PySem.Spec PyProof.Rows L2 PMH
open Evl (Ex)

local macro_rules | `(tactic| walk_at "ex") => `(tactic| first
  | with_reducible assumption
  | with_reducible exact Evl.Ex.refl _
  | (refine Evl.Ex.trans ?_ (by with_reducible assumption); walk_at "ex"))
local macro_rules | `(tactic| walk_at "hx") => `(tactic| first
  | with_reducible assumption
  | (refine At.ex (by with_reducible assumption) ?_; walk_at "ex")
  | (refine Fz.tx (by with_reducible assumption) ?_; walk_at "tx")
  | (refine TrAt.ex (by with_reducible assumption) ?_; walk_at "ex")
  | (refine MlAt.tx ?_ (by with_reducible assumption); walk_at "tx")
  | (refine PlAt.tx ?_ (by with_reducible assumption); walk_at "tx")
  | (refine LtAt.tx ?_ (by with_reducible assumption); walk_at "tx")
  | (refine GvAt.tx ?_ (by with_reducible assumption); walk_at "tx")
  | (refine WsAt.tx ?_ (by with_reducible assumption); walk_at "tx")
  | (refine RwAt.tx ?_ _ _ (by with_reducible assumption); walk_at "tx")
  | (refine RwsAt.tx ?_ _ _ (by with_reducible assumption); walk_at "tx")
  | (refine RuAt.tx ?_ (by with_reducible assumption); walk_at "tx")
  | (refine PrAt.tx ?_ (by with_reducible assumption); walk_at "tx"))
local macro_rules | `(tactic| walk_at "num") => `(tactic| first
  | with_reducible assumption
  | decide
  | exact Or.inl ⟨by omega, by omega⟩
  | exact Or.inr ⟨by omega, by omega⟩
  | (refine ⟨?_, ?_⟩ <;> omega)
  | (show (0 : Int) < _; omega))
local macro_rules | `(tactic| walk_at "tx") => `(tactic| first
  | with_reducible assumption
  | (refine Tx.ex ?_; walk_at "ex"))
local macro_rules | `(tactic| walk_at "sz") => `(tactic| first
  | with_reducible assumption
  | omega
  | (refine Evl.sz_of ?_; omega)
  | (refine Evl.sz_lt ?_; omega))
local macro_rules | `(tactic| walk_at "fl") => `(tactic| first
  | rfl
  | decide +kernel)

section
variable {P : Program} {w : World} {K : PySem.W.Frag} {mg : Str → Option Value} {base : Heap}
/-! ### names_in -/
def sp_names_in : Sp := fun vs H Q _ => ∃ (t : Tr) (u : V) (ns : List Nm), vs = [u] ∧ TrAt t u H ∧ t.ok ns ∧ t.deep ≤ 3 ∧ t.size ≤ 30 ∧ ∀ p H' ys, Ex H H' → At H' p (.lst (sV ys)) → (∀ y ∈ ys, y ∈ ns) → ys.length ≤ 100 → Q (.ref p) H'
abbrev N_names_in : List Str := ["tree", "found"]
theorem sc_names_in : FnScope N_names_in ["tree"] (defScope s_names_in) := ⟨rfl, rfl, rfl, by decide +kernel, rfl, by decide +kernel, by decide +kernel⟩
theorem ok_names_in (T : TX w K mg)  : Fn P w K mg base CX0 (6) "names_in" ["tree"] (sp_names_in) := by
  have f_gather := ok_gather (P := P) (base := base) T 3
  obtain ⟨fd, F⟩ := T.d_names_in
  refine mk_fn F T.g_names_in sc_names_in (fun vs H Q E h => by obtain ⟨_, _, _, rfl, _⟩ := h; rfl) (fun _ _ _ _ _ _ us hl => match us, hl with | [_], _ => rfl) (fun cdv A outer s H vs Q E hr h => ?_)
  obtain ⟨t, u, ns, rfl, ht, hk, hd, hs, hq⟩ := h
  have hu := hu_of hr
  refine ⟨(tSeq (tAsg tDNewK (gName 1)) (tSeq (tDrop (tCall (sp_gather 3) [] E0 (tCons (tVar 0) (tCons (tVar 1) tNil)))) (tRet (tCB rSortD (tCons (tVar 1) tNil))))),
      (pss_cons (ps_set (i := 1) sc_names_in.nd rfl (Or.inl rfl) pe_dnewK)
      (pss_cons (ps_expr (f_gather.ex.elim fun _ q => q.elim fun _ q => pe_call q.1 (hr.mono (by omega)) (by rfl) q.2.1 q.2.2.1 q.2.2.2 .nil pass0 (pa_cons (pv 0) (pa_cons (pv 1) pa_nil))))
      (pss_one (ps_ret (pe_callB (cl_sortD rfl) (by rfl) T.b_sorted bt_sorted (pa_cons (pv 1) pa_nil)))))), ?_⟩
  refine g_start (σ' := [some _, none]) rfl ?_
  refine g_seq (g_asg (g_dnew ?_))
  intro a H1 na e1 ha
  refine g_n1 (g_seq (g_drop (g_call (g_cons (g_v0 (g_cons (g_v1 (g_nil ?_))))))))
  refine ⟨t, u, a, [], ns, rfl, ht.ex e1, hd, hk, ha, by simp; omega, fun H2 ks w1 w2 w3 w4 => ?_⟩
  refine g_ret (g_cb (g_cons (g_v1 (g_nil ?_))))
  refine g_sortD w2 (ks := ks) (by unfold trK; rw [List.map_map]; rfl) (by simp at w4; omega) (fun p H3 ys np e3 hp hl => ?_)
  refine hq p H3 ys ?_ hl (fun y hy => ?_) (by rw [hp.length_eq]; simp at w4; omega)
  · exact (ex_kp e1 w1 (by simpa using na)).trans e3
  · rcases w3 y (hp.mem_iff.mp hy) with h | h
    · cases h
    · exact h
/-! ### is_tree_of -/
def sp_is_tree_of : Sp := fun vs H Q _ => ∃ (t : Tr) (u : V) (b : Addr) (ns : List Nm), vs = [u, .ref b] ∧ TrAt t u H ∧ TrOk ns t ∧ (∀ n ∈ ns, n ∈ nms) ∧ At H b (.lst (sV ns)) ∧ Ret (.bl true) H Q
abbrev N_is_tree_of : List Str := ["thing", "boxes", "name"]
theorem sc_is_tree_of : FnScope N_is_tree_of ["thing", "boxes"] (defScope s_is_tree_of) := ⟨rfl, rfl, rfl, by decide +kernel, rfl, by decide +kernel, by decide +kernel⟩
theorem ok_is_tree_of (T : TX w K mg)  : Fn P w K mg base CX0 (7) "is_tree_of" ["thing", "boxes"] (sp_is_tree_of) := by
  have f_is_tree := ok_is_tree (P := P) (base := base) T
  have f_names_in := ok_names_in (P := P) (base := base) T
  obtain ⟨fd, F⟩ := T.d_is_tree_of
  refine mk_fn F T.g_is_tree_of sc_is_tree_of (fun vs H Q E h => by obtain ⟨_, _, _, _, rfl, _⟩ := h; rfl) (fun _ _ _ _ _ _ us hl => match us, hl with | [_, _], _ => rfl) (fun cdv A outer s H vs Q E hr h => ?_)
  obtain ⟨t, u, b, ns, rfl, ht, hk, hns, hb, hq⟩ := h
  have hu := hu_of hr
  refine ⟨(tRet (tAndV (tCall sp_is_tree [] E0 (tCons (tVar 0) tNil)) (tCB (rAll K) (tCons (tLc (iList K (tCall sp_names_in [] E0 (tCons (tVar 0) tNil))) (gName 2) tYes (tOp (rIn K false) (tVar 2) (tVar 1)) [2]) tNil)))),
      (pss_one (ps_ret (pe_and (f_is_tree.ex.elim fun _ q => q.elim fun _ q => pe_call q.1 (hr.mono (by omega)) (by rfl) q.2.1 q.2.2.1 q.2.2.2 .nil pass0 (pa_cons (pv 0) pa_nil)) (pe_one (pe_callB (cr_all rfl) (by rfl) T.b_all bt_all (pa_cons (pe_lc (own := [("name", 2)]) (wi := (iList K (tCall sp_names_in [] E0 (tCons (tVar 0) tNil)))) (g := (gName 2)) (tt := tYes) (te := (tOp (rIn K false) (tVar 2) (tVar 1))) rfl sc_is_tree_of.nd (pi_list (f_names_in.ex.elim fun _ q => q.elim fun _ q => pe_call q.1 (hr.mono (by omega)) (by rfl) q.2.1 q.2.2.1 q.2.2.2 .nil pass0 (pa_cons (pv 0) pa_nil))) (blkOk_by (N := N_is_tree_of) (sc := defScope s_is_tree_of) (by decide +kernel)) (fun _ _ _ _ _ => (pg_name (i := 2) sc_is_tree_of.nd rfl (Or.inl rfl))) (fun _ _ _ _ _ => pts_nil) (fun _ _ _ _ _ => (pe_cmpR op_in_seq (pv 2) (pv 1) (by rfl)))) pa_nil)))))), ?_⟩
  refine g_start (σ' := [some _, some _, none]) rfl ?_
  refine g_ret (g_andV (g_call (g_cons (g_v0 (g_nil ?_)))))
  refine ⟨t, u, ns, rfl, ht, hk, hns, fun H1 e1 => ?_⟩
  refine g_k (g_iteT (g_cb (g_cons (g_lcL (g_call (g_cons (g_v0 (g_nil ?_))))))))
  refine ⟨t, u, ns, rfl, ht.ex e1, hk.1, hk.2.1, hk.2.2, fun p H2 ys e2 hp hy hl => ?_⟩
  refine lc_mapL (R := fun z u _ => u = V.str z) (ds := ys) (h := fun _ => .bl true) hp (al_eq ys) (by omega) (fun _ _ _ _ r => r) (fun z hm u H3 e3 hR Y N hY => ?_) (fun D H3 _ e3 hD => ?_)
  · subst hR
    refine g_n2 (And.intro rfl (g_yes (g_iteT (g_op (g_v2 (g_v1 ?_))))))
    refine g_inL0 (b := true) (At.sqL (by walk_at "hx")) rfl (flat_sV _) (in_yes (hy z hm)) ?_
    exact hY _ (Evl.Ex.refl _)
  ·
    refine g_nil ?_
    refine g_allT hD (by simp) ?_
    exact hq _ (by walk_at "ex")
/-! ### is_box_of -/
def sp_is_box_of : Sp := fun vs H Q _ => ∃ (z : Nm) (b : Addr) (ns : List Nm), vs = [.str z, .ref b] ∧ z ∈ ns ∧ At H b (.lst (sV ns)) ∧ Q (.bl true) H
abbrev N_is_box_of : List Str := ["thing", "boxes"]
theorem sc_is_box_of : FnScope N_is_box_of ["thing", "boxes"] (defScope s_is_box_of) := ⟨rfl, rfl, rfl, by decide +kernel, rfl, by decide +kernel, by decide +kernel⟩
theorem ok_is_box_of (T : TX w K mg)  : Fn P w K mg base CX0 (1) "is_box_of" ["thing", "boxes"] (sp_is_box_of) := by
  obtain ⟨fd, F⟩ := T.d_is_box_of
  refine mk_fn F T.g_is_box_of sc_is_box_of (fun vs H Q E h => by obtain ⟨_, _, _, rfl, _⟩ := h; rfl) (fun _ _ _ _ _ _ us hl => match us, hl with | [_, _], _ => rfl) (fun cdv A outer s H vs Q E hr h => ?_)
  obtain ⟨z, b, ns, rfl, hz, hb, hq⟩ := h
  have hu := hu_of hr
  refine ⟨(tRet (tAndV (tCB (rIsi K) (tCons (tVar 0) (tCons (tC (.ty "str")) tNil))) (tOp (rIn K false) (tVar 0) (tVar 1)))),
      (pss_one (ps_ret (pe_and (pe_callB call_isi (by rfl) T.b_isinstance bt_isinstance (pa_cons (pv 0) (pa_cons (pe_bltn (v := .ty "str") (by rfl) T.b_str bt_str rfl) pa_nil))) (pe_one (pe_cmpR op_in_seq (pv 0) (pv 1) (by rfl)))))), ?_⟩
  refine g_start (σ' := [some _, some _]) rfl ?_
  refine g_ret (g_andV (g_cb (g_cons (g_v0 (g_cons (g_c (g_nil (g_isStr (g_k (g_iteT (g_op (g_v0 (g_v1 ?_)))))))))))))
  refine g_inL0 (b := true) hb.sqL rfl (flat_sV _) (in_yes hz) ?_
  exact hq
def sp_is_whole_plain : Sp := fun vs H Q _ => ∃ i : Int, vs = [.int i] ∧ Q (.bl true) H
abbrev N_is_whole_plain : List Str := ["thing"]
theorem sc_is_whole_plain : FnScope N_is_whole_plain ["thing"] (defScope s_is_whole_plain) := ⟨rfl, rfl, rfl, by decide +kernel, rfl, by decide +kernel, by decide +kernel⟩
theorem ok_is_whole_plain (T : TX w K mg)  : Fn P w K mg base CX0 (1) "is_whole_plain" ["thing"] (sp_is_whole_plain) := by
  obtain ⟨fd, F⟩ := T.d_is_whole_plain
  refine mk_fn F T.g_is_whole_plain sc_is_whole_plain (fun vs H Q E h => by obtain ⟨_, rfl, _⟩ := h; rfl) (fun _ _ _ _ _ _ us hl => match us, hl with | [_], _ => rfl) (fun cdv A outer s H vs Q E hr h => ?_)
  obtain ⟨i, rfl, hq⟩ := h
  have hu := hu_of hr
  refine ⟨(tRet (tAndV (tCB (rIsi K) (tCons (tVar 0) (tCons (tC (.ty "int")) tNil))) (tNotV (tCB (rIsi K) (tCons (tVar 0) (tCons (tC (.ty "bool")) tNil)))))),
      (pss_one (ps_ret (pe_and (pe_callB call_isi (by rfl) T.b_isinstance bt_isinstance (pa_cons (pv 0) (pa_cons (pe_bltn (v := .ty "int") (by rfl) T.b_int bt_int rfl) pa_nil))) (pe_one (pe_not (pe_callB call_isi (by rfl) T.b_isinstance bt_isinstance (pa_cons (pv 0) (pa_cons (pe_bltn (v := .ty "bool") (by rfl) T.b_bool bt_bool rfl) pa_nil)))))))), ?_⟩
  refine g_start (σ' := [some _]) rfl ?_
  refine g_ret (g_andV (g_cb (g_cons (g_v0 (g_cons (g_c (g_nil (g_isInt (g_k (g_iteT (g_notV (g_cb (g_cons (g_v0 (g_cons (g_c (g_nil (g_isIntBool (g_k ?_)))))))))))))))))))
  exact hq
def sp_is_whole_rows : Sp := fun vs H Q _ => ∃ i j k : Int, vs = [.int i, .int j, .int k] ∧ j ≤ i ∧ i ≤ k ∧ Q (.bl true) H
abbrev N_is_whole_rows : List Str := ["thing", "least", "most"]
theorem sc_is_whole_rows : FnScope N_is_whole_rows ["thing", "least", "most"] (defScope s_is_whole_rows) := ⟨rfl, rfl, rfl, by decide +kernel, rfl, by decide +kernel, by decide +kernel⟩
theorem ok_is_whole_rows (T : TX w K mg)  : Fn P w K mg base CX0 (1) "is_whole_rows" ["thing", "least", "most"] (sp_is_whole_rows) := by
  obtain ⟨fd, F⟩ := T.d_is_whole_rows
  refine mk_fn F T.g_is_whole_rows sc_is_whole_rows (fun vs H Q E h => by obtain ⟨_, _, _, rfl, _⟩ := h; rfl) (fun _ _ _ _ _ _ us hl => match us, hl with | [_, _, _], _ => rfl) (fun cdv A outer s H vs Q E hr h => ?_)
  obtain ⟨i, j, k, rfl, h1, h2, hq⟩ := h
  have hu := hu_of hr
  refine ⟨(tRet (tAndV (tCB (rIsi K) (tCons (tVar 0) (tCons (tC (.ty "int")) tNil))) (tAndV (tNotV (tCB (rIsi K) (tCons (tVar 0) (tCons (tC (.ty "bool")) tNil)))) (tChain rLeI rLeI (tVar 1) (tVar 0) (tVar 2))))),
      (pss_one (ps_ret (pe_and (pe_callB call_isi (by rfl) T.b_isinstance bt_isinstance (pa_cons (pv 0) (pa_cons (pe_bltn (v := .ty "int") (by rfl) T.b_int bt_int rfl) pa_nil))) (pe_and (pe_not (pe_callB call_isi (by rfl) T.b_isinstance bt_isinstance (pa_cons (pv 0) (pa_cons (pe_bltn (v := .ty "bool") (by rfl) T.b_bool bt_bool rfl) pa_nil)))) (pe_one (pe_chain op_le op_le (pv 1) (pv 0) (pv 2))))))), ?_⟩
  refine g_start (σ' := [some _, some _, some _]) rfl ?_
  refine g_ret (g_andV (g_cb (g_cons (g_v0 (g_cons (g_c (g_nil (g_isInt (g_k (g_iteT (g_andV (g_notV (g_cb (g_cons (g_v0 (g_cons (g_c (g_nil (g_isIntBool (g_k (g_k (g_iteT (g_chain (g_v1 (g_v0 (g_I0 (g_k (g_ifD1 (h1) (g_v2 (g_I0 ?_))))))))))))))))))))))))))))))
  rw [decide_eq_true h2]
  exact hq
end
end PM
/-! part F5 -/
namespace PM
open PySem PySem.Spec PyProof.Rows L2 PMH
open Evl (Ex)

local macro_rules | `(tactic| walk_at "ex") => `(tactic| first
  | with_reducible assumption
  | with_reducible exact Evl.Ex.refl _
  | (refine Evl.Ex.trans ?_ (by with_reducible assumption); walk_at "ex"))
local macro_rules | `(tactic| walk_at "hx") => `(tactic| first
  | with_reducible assumption
  | (refine At.ex (by with_reducible assumption) ?_; walk_at "ex")
  | (refine Fz.tx (by with_reducible assumption) ?_; walk_at "tx")
  | (refine TrAt.ex (by with_reducible assumption) ?_; walk_at "ex")
  | (refine MlAt.tx ?_ (by with_reducible assumption); walk_at "tx")
  | (refine PlAt.tx ?_ (by with_reducible assumption); walk_at "tx")
  | (refine LtAt.tx ?_ (by with_reducible assumption); walk_at "tx")
  | (refine GvAt.tx ?_ (by with_reducible assumption); walk_at "tx")
  | (refine WsAt.tx ?_ (by with_reducible assumption); walk_at "tx")
  | (refine RwAt.tx ?_ _ _ (by with_reducible assumption); walk_at "tx")
  | (refine RwsAt.tx ?_ _ _ (by with_reducible assumption); walk_at "tx")
  | (refine RuAt.tx ?_ (by with_reducible assumption); walk_at "tx")
  | (refine PrAt.tx ?_ (by with_reducible assumption); walk_at "tx"))
local macro_rules | `(tactic| walk_at "num") => `(tactic| first
  | with_reducible assumption
  | decide
  | exact Or.inl ⟨by omega, by omega⟩
  | exact Or.inr ⟨by omega, by omega⟩
  | (refine ⟨?_, ?_⟩ <;> omega)
  | (show (0 : Int) < _; omega))
local macro_rules | `(tactic| walk_at "tx") => `(tactic| first
  | with_reducible assumption
  | (refine Tx.ex ?_; walk_at "ex"))
local macro_rules | `(tactic| walk_at "sz") => `(tactic| first
  | with_reducible assumption
  | omega
  | (refine Evl.sz_of ?_; omega)
  | (refine Evl.sz_lt ?_; omega))
local macro_rules | `(tactic| walk_at "fl") => `(tactic| first
  | rfl
  | decide +kernel)

def Row.plain : Row → Prop
  | .ite _ _ _ => False
  | _ => True
theorem set_word : ¬ ("set" : Nm) = "if" := by decide +kernel
section
variable {P : Program} {w : World} {K : PySem.W.Frag} {mg : Str → Option Value} {base : Heap}
/-! ### is_plain_row -/
def sp_is_plain_row : Sp := fun vs H Q _ => ∃ (r : Row) (u : V) (b p : Addr) (bs ps : List Nm), vs = [u, .ref b, .ref p] ∧ RwAt r u H ∧ r.plain ∧ Row.ok bs ps r ∧ (∀ n ∈ bs, n ∈ nms) ∧ At H b (.lst (sV bs)) ∧ At H p (.lst (sV ps)) ∧ Ret (.bl true) H Q
abbrev N_is_plain_row : List Str := ["thing", "boxes", "places"]
theorem sc_is_plain_row : FnScope N_is_plain_row ["thing", "boxes", "places"] (defScope s_is_plain_row) := ⟨rfl, rfl, rfl, by decide +kernel, rfl, by decide +kernel, by decide +kernel⟩
theorem ok_is_plain_row (T : TX w K mg)  : Fn P w K mg base CX0 (8) "is_plain_row" ["thing", "boxes", "places"] (sp_is_plain_row) := by
  have f_is_box_of := ok_is_box_of (P := P) (base := base) T
  have f_is_tree_of := ok_is_tree_of (P := P) (base := base) T
  have f_is_whole_rows := ok_is_whole_rows (P := P) (base := base) T
  have f_is_name := ok_is_name (P := P) (base := base) T
  obtain ⟨fd, F⟩ := T.d_is_plain_row
  refine mk_fn F T.g_is_plain_row sc_is_plain_row (fun vs H Q E h => by obtain ⟨_, _, _, _, _, _, rfl, _⟩ := h; rfl) (fun _ _ _ _ _ _ us hl => match us, hl with | [_, _, _], _ => rfl) (fun cdv A outer s H vs Q E hr h => ?_)
  obtain ⟨r, u, b, p, bs, ps, rfl, hw, hpl, hk, hbs, hb, hp, hq⟩ := h
  have hu := hu_of hr
  refine ⟨(tSeq (tIfS (tTest (tOp rEq (tOp (rIxT K) (tVar 0) (tC (.int 0))) (tC (.str "set")))) (tRet (tAndV (tOp rEq (tCB (Evl.rLenS K) (tCons (tVar 0) tNil)) (tC (.int 3))) (tAndV (tCall sp_is_box_of [] E0 (tCons (tOp (rIxT K) (tVar 0) (tC (.int 1))) (tCons (tVar 1) tNil))) (tCall sp_is_tree_of [] E0 (tCons (tOp (rIxT K) (tVar 0) (tC (.int 2))) (tCons (tVar 1) tNil)))))) tNext) (tSeq (tIfS (tTest (tOp rEq (tOp (rIxT K) (tVar 0) (tC (.int 0))) (tC (.str "draw")))) (tRet (tAndV (tOp rEq (tCB (Evl.rLenS K) (tCons (tVar 0) tNil)) (tC (.int 3))) (tAndV (tCall sp_is_box_of [] E0 (tCons (tOp (rIxT K) (tVar 0) (tC (.int 1))) (tCons (tVar 1) tNil))) (tCall sp_is_whole_rows [] E0 (tCons (tOp (rIxT K) (tVar 0) (tC (.int 2))) (tCons (tC (.int 2)) (tCons (tC (.int 4)) tNil))))))) tNext) (tSeq (tIfS (tOr (tTest (tOp rNe (tOp (rIxT K) (tVar 0) (tC (.int 0))) (tC (.str "send")))) (tTest (tOp rNe (tCB (Evl.rLenS K) (tCons (tVar 0) tNil)) (tC (.int 5))))) (tRet (tC (.bl false))) tNext) (tSeq (tIfS (tOr (tNot (tB (tCall sp_is_box_of [] E0 (tCons (tOp (rIxT K) (tVar 0) (tC (.int 1))) (tCons (tVar 2) tNil))))) (tOr (tNot (tB (tCall sp_is_name [] E0 (tCons (tOp (rIxT K) (tVar 0) (tC (.int 2))) tNil)))) (tNot (tB (tCall sp_is_whole_rows [] E0 (tCons (tOp (rIxT K) (tVar 0) (tC (.int 3))) (tCons (tC (.int 1)) (tCons (tC (.int 20)) tNil)))))))) (tRet (tC (.bl false))) tNext) (tRet (tCall sp_is_tree_of [] E0 (tCons (tOp (rIxT K) (tVar 0) (tC (.int 4))) (tCons (tVar 1) tNil)))))))),
      (pss_cons (ps_if (pt_cmpR op_eq (pe_ix ix_tup (pv 0) pe_int (fun _ _ => rfl)) pe_str (nomark _)) (pss_one (ps_ret (pe_and (pe_cmpR op_eq (pe_callB cl_len (by rfl) T.b_len bt_len (pa_cons (pv 0) pa_nil)) pe_int (nomark _)) (pe_and (f_is_box_of.ex.elim fun _ q => q.elim fun _ q => pe_call q.1 (hr.mono (by omega)) (by rfl) q.2.1 q.2.2.1 q.2.2.2 .nil pass0 (pa_cons (pe_ix ix_tup (pv 0) pe_int (fun _ _ => rfl)) (pa_cons (pv 1) pa_nil))) (pe_one (f_is_tree_of.ex.elim fun _ q => q.elim fun _ q => pe_call q.1 (hr.mono (by omega)) (by rfl) q.2.1 q.2.2.1 q.2.2.2 .nil pass0 (pa_cons (pe_ix ix_tup (pv 0) pe_int (fun _ _ => rfl)) (pa_cons (pv 1) pa_nil)))))))) pss_nil)
      (pss_cons (ps_if (pt_cmpR op_eq (pe_ix ix_tup (pv 0) pe_int (fun _ _ => rfl)) pe_str (nomark _)) (pss_one (ps_ret (pe_and (pe_cmpR op_eq (pe_callB cl_len (by rfl) T.b_len bt_len (pa_cons (pv 0) pa_nil)) pe_int (nomark _)) (pe_and (f_is_box_of.ex.elim fun _ q => q.elim fun _ q => pe_call q.1 (hr.mono (by omega)) (by rfl) q.2.1 q.2.2.1 q.2.2.2 .nil pass0 (pa_cons (pe_ix ix_tup (pv 0) pe_int (fun _ _ => rfl)) (pa_cons (pv 1) pa_nil))) (pe_one (f_is_whole_rows.ex.elim fun _ q => q.elim fun _ q => pe_call q.1 (hr.mono (by omega)) (by rfl) q.2.1 q.2.2.1 q.2.2.2 .nil pass0 (pa_cons (pe_ix ix_tup (pv 0) pe_int (fun _ _ => rfl)) (pa_cons (pe_gint (by rfl) T.k_LEAST_MANY) (pa_cons (pe_gint (by rfl) T.k_MOST_MANY) pa_nil))))))))) pss_nil)
      (pss_cons (ps_if (PW.pt (pw_or (pt_cmpR op_ne (pe_ix ix_tup (pv 0) pe_int (fun _ _ => rfl)) pe_str (nomark _)) (pw_or1 (pt_cmpR op_ne (pe_callB cl_len (by rfl) T.b_len bt_len (pa_cons (pv 0) pa_nil)) pe_int (nomark _))))) (pss_one (ps_ret pe_bl)) pss_nil)
      (pss_cons (ps_if (PW.pt (pw_or (pt_not (pt_val (f_is_box_of.ex.elim fun _ q => q.elim fun _ q => pe_call q.1 (hr.mono (by omega)) (by rfl) q.2.1 q.2.2.1 q.2.2.2 .nil pass0 (pa_cons (pe_ix ix_tup (pv 0) pe_int (fun _ _ => rfl)) (pa_cons (pv 2) pa_nil))))) (pw_or (pt_not (pt_val (f_is_name.ex.elim fun _ q => q.elim fun _ q => pe_call q.1 (hr.mono (by omega)) (by rfl) q.2.1 q.2.2.1 q.2.2.2 .nil pass0 (pa_cons (pe_ix ix_tup (pv 0) pe_int (fun _ _ => rfl)) pa_nil)))) (pw_or1 (pt_not (pt_val (f_is_whole_rows.ex.elim fun _ q => q.elim fun _ q => pe_call q.1 (hr.mono (by omega)) (by rfl) q.2.1 q.2.2.1 q.2.2.2 .nil pass0 (pa_cons (pe_ix ix_tup (pv 0) pe_int (fun _ _ => rfl)) (pa_cons pe_int (pa_cons (pe_gint (by rfl) T.k_MOST_SPAN) pa_nil)))))))))) (pss_one (ps_ret pe_bl)) pss_nil)
      (pss_one (ps_ret (f_is_tree_of.ex.elim fun _ q => q.elim fun _ q => pe_call q.1 (hr.mono (by omega)) (by rfl) q.2.1 q.2.2.1 q.2.2.2 .nil pass0 (pa_cons (pe_ix ix_tup (pv 0) pe_int (fun _ _ => rfl)) (pa_cons (pv 1) pa_nil))))))))), ?_⟩
  refine g_start (σ' := [some _, some _, some _]) rfl ?_
  cases r with
  | set n t =>
    unfold RwAt at hw
    obtain ⟨c, v, rfl, hc, ht⟩ := hw
    unfold Row.ok at hk
    refine g_seq (g_ifs (g_tst (g_op (g_op (g_v0 (g_c (g_ixT (by walk_at "hx") (show atI _ _ = some _ from rfl) (g_c (g_eqS (g_k (g_ifD1 rfl (g_ret (g_andV (g_op (g_cb (g_cons (g_v0 (g_nil (g_lnT (by walk_at "hx") (g_c (g_eqI (g_k (g_ifD1 (by simp) (g_andV (g_call (g_cons (g_op (g_v0 (g_c (g_ixT (by walk_at "hx") (show atI _ _ = some _ from rfl) (g_cons (g_v1 (g_nil ?_)))))))))))))))))))))))))))))))))
    refine ⟨n, b, bs, rfl, hk.1, hb, ?_⟩
    refine g_k (g_iteT (g_call (g_cons (g_op (g_v0 (g_c (g_ixT (by walk_at "hx") (show atI _ _ = some _ from rfl) (g_cons (g_v1 (g_nil ?_))))))))))
    exact ⟨t, v, b, bs, rfl, ht, hk.2, hbs, hb, hq⟩
  | draw n m =>
    unfold RwAt at hw
    obtain ⟨c, rfl, hc⟩ := hw
    unfold Row.ok at hk
    refine g_seq (g_ifs (g_tst (g_op (g_op (g_v0 (g_c (g_ixT (by walk_at "hx") (show atI _ _ = some _ from rfl) (g_c (g_eqS (g_k (g_ifD0 (by decide +kernel) (g_next (g_seq (g_ifs (g_tst (g_op (g_op (g_v0 (g_c (g_ixT (by walk_at "hx") (show atI _ _ = some _ from rfl) (g_c (g_eqS (g_k (g_ifD1 rfl (g_ret (g_andV (g_op (g_cb (g_cons (g_v0 (g_nil (g_lnT (by walk_at "hx") (g_c (g_eqI (g_k (g_ifD1 (by simp) (g_andV (g_call (g_cons (g_op (g_v0 (g_c (g_ixT (by walk_at "hx") (show atI _ _ = some _ from rfl) (g_cons (g_v1 (g_nil ?_))))))))))))))))))))))))))))))))))))))))))))))
    refine ⟨n, b, bs, rfl, hk.1, hb, ?_⟩
    refine g_k (g_iteT (g_call (g_cons (g_op (g_v0 (g_c (g_ixT (by walk_at "hx") (show atI _ _ = some _ from rfl) (g_cons (g_c (g_cons (g_c (g_nil ?_))))))))))))
    exact ⟨m, 2, 4, rfl, hk.2.1, hk.2.2, hq _ (Evl.Ex.refl _)⟩
  | send g k s t =>
    unfold RwAt at hw
    obtain ⟨c, v, rfl, hc, ht⟩ := hw
    unfold Row.ok at hk
    obtain ⟨k1, k2, k3, k4, k5⟩ := hk
    refine g_seq (g_ifs (g_tst (g_op (g_op (g_v0 (g_c (g_ixT (by walk_at "hx") (show atI _ _ = some _ from rfl) (g_c (g_eqS (g_k (g_ifD0 (by decide +kernel) (g_next (g_seq (g_ifs (g_tst (g_op (g_op (g_v0 (g_c (g_ixT (by walk_at "hx") (show atI _ _ = some _ from rfl) (g_c (g_eqS (g_k (g_ifD0 (by decide +kernel) (g_next (g_seq (g_ifs (g_or (g_tst (g_op (g_op (g_v0 (g_c (g_ixT (by walk_at "hx") (show atI _ _ = some _ from rfl) (g_c (g_neS (g_k (g_ifN0 (by decide +kernel) (g_tst (g_op (g_cb (g_cons (g_v0 (g_nil (g_lnT (by walk_at "hx") (g_c (g_neI (g_k (g_ifN0 (by simp) (g_next (g_seq (g_ifs (g_or (g_not (g_tB (g_call (g_cons (g_op (g_v0 (g_c (g_ixT (by walk_at "hx") (show atI _ _ = some _ from rfl) (g_cons (g_v2 (g_nil ?_))))))))))))))))))))))))))))))))))))))))))))))))))))))))))))))))
    refine ⟨g, p, ps, rfl, k1, hp, ?_⟩
    refine g_k (g_iteF (g_or (g_not (g_tB (g_call (g_cons (g_op (g_v0 (g_c (g_ixT (by walk_at "hx") (show atI _ _ = some _ from rfl) (g_nil ?_)))))))))))
    refine ⟨k, rfl, List.mem_append_right _ k2, ?_⟩
    refine g_k (g_iteF (g_not (g_tB (g_call (g_cons (g_op (g_v0 (g_c (g_ixT (by walk_at "hx") (show atI _ _ = some _ from rfl) (g_cons (g_c (g_cons (g_c (g_nil ?_))))))))))))))
    refine ⟨s, 1, 20, rfl, k3, k4, ?_⟩
    refine g_k (g_iteF (g_next (g_ret (g_call (g_cons (g_op (g_v0 (g_c (g_ixT (by walk_at "hx") (show atI _ _ = some _ from rfl) (g_cons (g_v1 (g_nil ?_))))))))))))
    exact ⟨t, v, b, bs, rfl, ht, k5, hbs, hb, hq⟩
  | ite c x y => exact hpl.elim
/-! ### many_in, many_by, are_rows -/
def sp_many_in (d : Nat) : Sp := fun vs H Q _ => ∃ (rs : List Row) (v : V) (b p : Addr) (bs ps : List Nm) (rm : Int), vs = [v, .ref b, .ref p, .int rm] ∧ TpAt RwAt rs v H ∧ Row.oks bs ps rs ∧ Row.deeps rs ≤ d ∧ (d : Int) ≤ rm ∧ Row.cnts rs ≤ 12 ∧
  (∀ n ∈ bs, n ∈ nms) ∧ At H b (.lst (sV bs)) ∧ At H p (.lst (sV ps)) ∧ Ret (.int (Row.cnts rs)) H Q
def sp_many_by (d : Nat) : Sp := fun vs H Q _ => ∃ (r : Row) (v : V) (b p : Addr) (bs ps : List Nm) (rm : Int), vs = [v, .ref b, .ref p, .int rm] ∧ RwAt r v H ∧ Row.ok bs ps r ∧ r.deep ≤ d ∧ (d : Int) ≤ rm ∧ r.cnt ≤ 12 ∧
  (∀ n ∈ bs, n ∈ nms) ∧ At H b (.lst (sV bs)) ∧ At H p (.lst (sV ps)) ∧ Ret (.int r.cnt) H Q
theorem Row.deep_pos (r : Row) : 1 ≤ r.deep := by cases r <;> unfold Row.deep <;> omega
theorem Row.cnt_pos (r : Row) : 1 ≤ r.cnt := by cases r <;> unfold Row.cnt <;> omega
theorem Row.cnts_len : ∀ rs : List Row, rs.length ≤ Row.cnts rs
  | [] => Nat.le_refl 0
  | r :: rs => by
    have := Row.cnts_len rs
    have := r.cnt_pos
    simp only [Row.cnts, List.length_cons]
    omega
theorem Row.oks_mem {bs ps : List Nm} {r : Row} : ∀ {rs : List Row}, Row.oks bs ps rs → r ∈ rs → Row.ok bs ps r
  | [], _, m => by cases m
  | x :: xs, h, m => by
    unfold Row.oks at h
    rcases List.mem_cons.mp m with rfl | m
    · exact h.1
    · exact Row.oks_mem h.2 m
theorem Row.cnts_mem {r : Row} : ∀ {rs : List Row}, r ∈ rs → r.cnt ≤ Row.cnts rs ∧ r.deep ≤ Row.deeps rs
  | [], m => by cases m
  | x :: xs, m => by
    unfold Row.cnts Row.deeps
    rcases List.mem_cons.mp m with rfl | m
    · omega
    · have := Row.cnts_mem m
      omega
theorem Row.cnts_sum : ∀ rs : List Row, (rs.map fun r => (r.cnt : Int)).sum = (Row.cnts rs : Int)
  | [] => rfl
  | r :: rs => by
    have := Row.cnts_sum rs
    rw [List.map_cons, List.sum_cons, this]
    simp only [Row.cnts]
    omega
abbrev N_many_in : List Str := ["thing", "boxes", "places", "room", "row"]
theorem sc_many_in : FnScope N_many_in ["thing", "boxes", "places", "room"] (defScope s_many_in) := ⟨rfl, rfl, rfl, by decide +kernel, rfl, by decide +kernel, by decide +kernel⟩
theorem ok_many_in (T : TX w K mg) (d : Nat) (f_many_by : Fn P w K mg base CX0 (2 * d + 10) "many_by" ["thing", "boxes", "places", "room"] (sp_many_by d)) : Fn P w K mg base CX0 (2 * d + 11) "many_in" ["thing", "boxes", "places", "room"] (sp_many_in d) := by
  obtain ⟨fd, F⟩ := T.d_many_in
  refine mk_fn F T.g_many_in sc_many_in (fun vs H Q E h => by obtain ⟨_, _, _, _, _, _, _, rfl, _⟩ := h; rfl) (fun _ _ _ _ _ _ us hl => match us, hl with | [_, _, _, _], _ => rfl) (fun cdv A outer s H vs Q E hr h => ?_)
  obtain ⟨rs, v, b, p, bs, ps, rm, rfl, hw, hk, hd, hrm, hc, hbs, hb, hp, hq⟩ := h
  have hu := hu_of hr
  refine ⟨(tSeq (tIfS (tNot (tB (tCB (rIsi K) (tCons (tVar 0) (tCons (tC (.ty "tuple")) tNil))))) (tRet (tOp rAddI (tC (.int 12)) (tC (.int 1)))) tNext) (tRet (tCB (rSum K) (tCons (tLc (iTup K (tSl (rSlA K) (tVar 0) tNoPart (tPart (tOp rAddI (tC (.int 12)) (tC (.int 1)))))) (gName 4) tYes (tCall (sp_many_by d) [] E0 (tCons (tVar 4) (tCons (tVar 1) (tCons (tVar 2) (tCons (tVar 3) tNil))))) [4]) tNil)))),
      (pss_cons (ps_if (pt_not (pt_val (pe_callB call_isi (by rfl) T.b_isinstance bt_isinstance (pa_cons (pv 0) (pa_cons (pe_bltn (v := .ty "tuple") (by rfl) T.b_tuple bt_tuple rfl) pa_nil))))) (pss_one (ps_ret (pe_op op_add (pe_gint (by rfl) T.k_MOST_ROWS) pe_int))) pss_nil)
      (pss_one (ps_ret (pe_callB (cr_sum rfl) (by rfl) T.b_sum bt_sum (pa_cons (pe_lc (own := [("row", 4)]) (wi := (iTup K (tSl (rSlA K) (tVar 0) tNoPart (tPart (tOp rAddI (tC (.int 12)) (tC (.int 1))))))) (g := (gName 4)) (tt := tYes) (te := (tCall (sp_many_by d) [] E0 (tCons (tVar 4) (tCons (tVar 1) (tCons (tVar 2) (tCons (tVar 3) tNil)))))) rfl sc_many_in.nd (pi_tup (pe_slice sl_tupA (pv 0) po_none (po_some (pe_op op_add (pe_gint (by rfl) T.k_MOST_ROWS) pe_int)))) (blkOk_by (N := N_many_in) (sc := defScope s_many_in) (by decide +kernel)) (fun _ _ _ _ _ => (pg_name (i := 4) sc_many_in.nd rfl (Or.inl rfl))) (fun _ _ _ _ _ => pts_nil) (fun _ _ _ _ _ => (f_many_by.ex.elim fun _ q => q.elim fun _ q => pe_call q.1 (hr.mono (by omega)) (by rfl) q.2.1 q.2.2.1 q.2.2.2 .nil pass0 (pa_cons (pv 4) (pa_cons (pv 1) (pa_cons (pv 2) (pa_cons (pv 3) pa_nil))))))) pa_nil))))), ?_⟩
  refine g_start (σ' := [some _, some _, some _, some _, none]) rfl ?_
  obtain ⟨c, us, rfl, hcc, hal⟩ := hw
  have hl := hal.len
  have hl2 := Row.cnts_len rs
  refine g_seq (g_ifs (g_not (g_tB (g_cb (g_cons (g_v0 (g_cons (g_c (g_nil (g_isTup (by walk_at "hx") (g_k (g_iteF (g_next (g_ret (g_cb (g_cons (g_lcT (g_sl (g_v0 (g_po0 (g_po (g_op (g_c (g_c (g_I0 (g_poI ?_))))))))))))))))))))))))))
  refine g_slTw hcc ⟨rfl, by show min ((12 + 1 : Int)).toNat us.length = us.length; omega⟩ ?_
  refine lc_mapT (R := RwAt) (ds := rs) (h := fun r => .int r.cnt) hcc hal (by omega) (fun r u H1 e h => RwAt.tx (Tx.ex e) r u h) (fun r hm u H1 e1 hR Y N hY => ?_) (fun D H1 _ e1 hD => ?_)
  · have hm2 := Row.cnts_mem hm
    refine g_n4 (And.intro rfl (g_yes (g_iteT (g_call (g_cons (g_v4 (g_cons (g_v1 (g_cons (g_v2 (g_cons (g_v3 (g_nil ?_)))))))))))))
    exact ⟨r, u, b, p, bs, ps, rm, rfl, hR, Row.oks_mem hk hm, by omega, hrm, by omega, hbs, hb.ex e1, hp.ex e1, fun H4 e4 => hY H4 e4⟩
  ·
    refine g_nil ?_
    refine g_sum (ns := rs.map fun r => (r.cnt : Int)) (by rw [List.map_map]; exact hD) ?_
    rw [Row.cnts_sum]
    exact hq _ e1
abbrev N_many_by : List Str := ["thing", "boxes", "places", "room", "inner"]
theorem sc_many_by : FnScope N_many_by ["thing", "boxes", "places", "room"] (defScope s_many_by) := ⟨rfl, rfl, rfl, by decide +kernel, rfl, by decide +kernel, by decide +kernel⟩
theorem ok_many_by (T : TX w K mg)  (d : Nat) : Fn P w K mg base CX0 (2 * d + 10) "many_by" ["thing", "boxes", "places", "room"] (sp_many_by d) := by
  have f_is_plain_row := ok_is_plain_row (P := P) (base := base) T
  have f_is_tree_of := ok_is_tree_of (P := P) (base := base) T
  induction d with
  | zero =>
    obtain ⟨fd, F⟩ := T.d_many_by
    refine mk_fn F T.g_many_by sc_many_by (fun vs H Q E h => by obtain ⟨_, _, _, _, _, _, _, rfl, _⟩ := h; rfl) (fun _ _ _ _ _ _ us hl => match us, hl with | [_, _, _, _], _ => rfl) (fun cdv A outer s H vs Q E hr h => ?_)
    obtain ⟨r, v, b, p, bs, ps, rm, rfl, hw, hk, hd, hrm, hc, hbs, hb, hp, hq⟩ := h
    exact absurd hd (by have := r.deep_pos; omega)
  | succ d f_many_by =>
    have f_many_in := ok_many_in T d f_many_by
    obtain ⟨fd, F⟩ := T.d_many_by
    refine mk_fn F T.g_many_by sc_many_by (fun vs H Q E h => by obtain ⟨_, _, _, _, _, _, _, rfl, _⟩ := h; rfl) (fun _ _ _ _ _ _ us hl => match us, hl with | [_, _, _, _], _ => rfl) (fun cdv A outer s H vs Q E hr h => ?_)
    obtain ⟨r, v, b, p, bs, ps, rm, rfl, hw, hk, hd, hrm, hc, hbs, hb, hp, hq⟩ := h
    have hu := hu_of hr
    refine ⟨(tSeq (tIfS (tOr (tNot (tB (tCB (rIsi K) (tCons (tVar 0) (tCons (tC (.ty "tuple")) tNil))))) (tOr (tTest (tOp rEq (tCB (Evl.rLenS K) (tCons (tVar 0) tNil)) (tC (.int 0)))) (tOr (tNot (tB (tCB (rIsi K) (tCons (tOp (rIxT K) (tVar 0) (tC (.int 0))) (tCons (tC (.ty "str")) tNil))))) (tTest (tOp rEq (tVar 3) (tC (.int 0))))))) (tRet (tOp rAddI (tC (.int 12)) (tC (.int 1)))) tNext) (tSeq (tIfS (tTest (tOp rNe (tOp (rIxT K) (tVar 0) (tC (.int 0))) (tC (.str "if")))) (tRet (tIf (tB (tCall sp_is_plain_row [] E0 (tCons (tVar 0) (tCons (tVar 1) (tCons (tVar 2) tNil))))) (tC (.int 1)) (tOp rAddI (tC (.int 12)) (tC (.int 1))))) tNext) (tSeq (tIfS (tOr (tTest (tOp rNe (tCB (Evl.rLenS K) (tCons (tVar 0) tNil)) (tC (.int 4)))) (tNot (tB (tCall sp_is_tree_of [] E0 (tCons (tOp (rIxT K) (tVar 0) (tC (.int 1))) (tCons (tVar 1) tNil)))))) (tRet (tOp rAddI (tC (.int 12)) (tC (.int 1)))) tNext) (tSeq (tAsg (tOp rAddI (tCall (sp_many_in d) [] E0 (tCons (tOp (rIxT K) (tVar 0) (tC (.int 2))) (tCons (tVar 1) (tCons (tVar 2) (tCons (tOp rSubI (tVar 3) (tC (.int 1))) tNil))))) (tCall (sp_many_in d) [] E0 (tCons (tOp (rIxT K) (tVar 0) (tC (.int 3))) (tCons (tVar 1) (tCons (tVar 2) (tCons (tOp rSubI (tVar 3) (tC (.int 1))) tNil)))))) (gName 4)) (tRet (tOp rAddI (tC (.int 1)) (tVar 4))))))),
      (pss_cons (ps_if (PW.pt (pw_or (pt_not (pt_val (pe_callB call_isi (by rfl) T.b_isinstance bt_isinstance (pa_cons (pv 0) (pa_cons (pe_bltn (v := .ty "tuple") (by rfl) T.b_tuple bt_tuple rfl) pa_nil))))) (pw_or (pt_cmpR op_eq (pe_callB cl_len (by rfl) T.b_len bt_len (pa_cons (pv 0) pa_nil)) pe_int (nomark _)) (pw_or (pt_not (pt_val (pe_callB call_isi (by rfl) T.b_isinstance bt_isinstance (pa_cons (pe_ix ix_tup (pv 0) pe_int (fun _ _ => rfl)) (pa_cons (pe_bltn (v := .ty "str") (by rfl) T.b_str bt_str rfl) pa_nil))))) (pw_or1 (pt_cmpR op_eq (pv 3) pe_int (nomark _))))))) (pss_one (ps_ret (pe_op op_add (pe_gint (by rfl) T.k_MOST_ROWS) pe_int))) pss_nil)
      (pss_cons (ps_if (pt_cmpR op_ne (pe_ix ix_tup (pv 0) pe_int (fun _ _ => rfl)) pe_str (nomark _)) (pss_one (ps_ret (pe_ifExp (pt_val (f_is_plain_row.ex.elim fun _ q => q.elim fun _ q => pe_call q.1 (hr.mono (by omega)) (by rfl) q.2.1 q.2.2.1 q.2.2.2 .nil pass0 (pa_cons (pv 0) (pa_cons (pv 1) (pa_cons (pv 2) pa_nil))))) pe_int (pe_op op_add (pe_gint (by rfl) T.k_MOST_ROWS) pe_int)))) pss_nil)
      (pss_cons (ps_if (PW.pt (pw_or (pt_cmpR op_ne (pe_callB cl_len (by rfl) T.b_len bt_len (pa_cons (pv 0) pa_nil)) pe_int (nomark _)) (pw_or1 (pt_not (pt_val (f_is_tree_of.ex.elim fun _ q => q.elim fun _ q => pe_call q.1 (hr.mono (by omega)) (by rfl) q.2.1 q.2.2.1 q.2.2.2 .nil pass0 (pa_cons (pe_ix ix_tup (pv 0) pe_int (fun _ _ => rfl)) (pa_cons (pv 1) pa_nil)))))))) (pss_one (ps_ret (pe_op op_add (pe_gint (by rfl) T.k_MOST_ROWS) pe_int))) pss_nil)
      (pss_cons (ps_set (i := 4) sc_many_by.nd rfl (Or.inl rfl) (pe_op op_add (f_many_in.ex.elim fun _ q => q.elim fun _ q => pe_call q.1 (hr.mono (by omega)) (by rfl) q.2.1 q.2.2.1 q.2.2.2 .nil pass0 (pa_cons (pe_ix ix_tup (pv 0) pe_int (fun _ _ => rfl)) (pa_cons (pv 1) (pa_cons (pv 2) (pa_cons (pe_op op_sub (pv 3) pe_int) pa_nil))))) (f_many_in.ex.elim fun _ q => q.elim fun _ q => pe_call q.1 (hr.mono (by omega)) (by rfl) q.2.1 q.2.2.1 q.2.2.2 .nil pass0 (pa_cons (pe_ix ix_tup (pv 0) pe_int (fun _ _ => rfl)) (pa_cons (pv 1) (pa_cons (pv 2) (pa_cons (pe_op op_sub (pv 3) pe_int) pa_nil)))))))
      (pss_one (ps_ret (pe_op op_add pe_int (pv 4)))))))), ?_⟩
    refine g_start (σ' := [some _, some _, some _, some _, none]) rfl ?_
    have hr0 : ¬ rm = 0 := by omega
    cases r with
    | set n t =>
      have hw0 := hw
      unfold RwAt at hw
      obtain ⟨c, v, rfl, hcc, _⟩ := hw
      have hcn : Row.cnt (.set n t) = 1 := by unfold Row.cnt; rfl
      refine g_seq (g_ifs (g_or (g_not (g_tB (g_cb (g_cons (g_v0 (g_cons (g_c (g_nil (g_isTup (by walk_at "hx") (g_k (g_iteF (g_or (g_tst (g_op (g_cb (g_cons (g_v0 (g_nil (g_lnT (by walk_at "hx") (g_c (g_eqI (g_k (g_ifD0 (by simp) (g_or (g_not (g_tB (g_cb (g_cons (g_op (g_v0 (g_c (g_ixT (by walk_at "hx") (show atI _ _ = some _ from rfl) (g_cons (g_c (g_nil (g_isStr (g_k (g_iteF (g_tst (g_op (g_v3 (g_c (g_eqI (g_k (g_ifD0 (hr0) (g_next (g_seq (g_ifs (g_tst (g_op (g_op (g_v0 (g_c (g_ixT (by walk_at "hx") (show atI _ _ = some _ from rfl) (g_c (g_neS (g_k (g_ifN1 (by decide +kernel) (g_ret (g_if (g_tB (g_call (g_cons (g_v0 (g_cons (g_v1 (g_cons (g_v2 (g_nil ?_)))))))))))))))))))))))))))))))))))))))))))))))))))))))))))))))))))))))
      refine ⟨_, _, b, p, bs, ps, rfl, hw0, trivial, hk, hbs, hb, hp, fun H1 e1 => ?_⟩
      refine g_k (g_iteT (g_c ?_))
      rw [hcn] at hq
      exact hq _ e1
    | draw n t =>
      have hw0 := hw
      unfold RwAt at hw
      obtain ⟨c, rfl, hcc⟩ := hw
      have hcn : Row.cnt (.draw n t) = 1 := by unfold Row.cnt; rfl
      refine g_seq (g_ifs (g_or (g_not (g_tB (g_cb (g_cons (g_v0 (g_cons (g_c (g_nil (g_isTup (by walk_at "hx") (g_k (g_iteF (g_or (g_tst (g_op (g_cb (g_cons (g_v0 (g_nil (g_lnT (by walk_at "hx") (g_c (g_eqI (g_k (g_ifD0 (by simp) (g_or (g_not (g_tB (g_cb (g_cons (g_op (g_v0 (g_c (g_ixT (by walk_at "hx") (show atI _ _ = some _ from rfl) (g_cons (g_c (g_nil (g_isStr (g_k (g_iteF (g_tst (g_op (g_v3 (g_c (g_eqI (g_k (g_ifD0 (hr0) (g_next (g_seq (g_ifs (g_tst (g_op (g_op (g_v0 (g_c (g_ixT (by walk_at "hx") (show atI _ _ = some _ from rfl) (g_c (g_neS (g_k (g_ifN1 (by decide +kernel) (g_ret (g_if (g_tB (g_call (g_cons (g_v0 (g_cons (g_v1 (g_cons (g_v2 (g_nil ?_)))))))))))))))))))))))))))))))))))))))))))))))))))))))))))))))))))))))
      refine ⟨_, _, b, p, bs, ps, rfl, hw0, trivial, hk, hbs, hb, hp, fun H1 e1 => ?_⟩
      refine g_k (g_iteT (g_c ?_))
      rw [hcn] at hq
      exact hq _ e1
    | send g k s t =>
      have hw0 := hw
      unfold RwAt at hw
      obtain ⟨c, v, rfl, hcc, _⟩ := hw
      have hcn : Row.cnt (.send g k s t) = 1 := by unfold Row.cnt; rfl
      refine g_seq (g_ifs (g_or (g_not (g_tB (g_cb (g_cons (g_v0 (g_cons (g_c (g_nil (g_isTup (by walk_at "hx") (g_k (g_iteF (g_or (g_tst (g_op (g_cb (g_cons (g_v0 (g_nil (g_lnT (by walk_at "hx") (g_c (g_eqI (g_k (g_ifD0 (by simp) (g_or (g_not (g_tB (g_cb (g_cons (g_op (g_v0 (g_c (g_ixT (by walk_at "hx") (show atI _ _ = some _ from rfl) (g_cons (g_c (g_nil (g_isStr (g_k (g_iteF (g_tst (g_op (g_v3 (g_c (g_eqI (g_k (g_ifD0 (hr0) (g_next (g_seq (g_ifs (g_tst (g_op (g_op (g_v0 (g_c (g_ixT (by walk_at "hx") (show atI _ _ = some _ from rfl) (g_c (g_neS (g_k (g_ifN1 (by decide +kernel) (g_ret (g_if (g_tB (g_call (g_cons (g_v0 (g_cons (g_v1 (g_cons (g_v2 (g_nil ?_)))))))))))))))))))))))))))))))))))))))))))))))))))))))))))))))))))))))
      refine ⟨_, _, b, p, bs, ps, rfl, hw0, trivial, hk, hbs, hb, hp, fun H1 e1 => ?_⟩
      refine g_k (g_iteT (g_c ?_))
      rw [hcn] at hq
      exact hq _ e1
    | ite c x y =>
      unfold RwAt at hw
      obtain ⟨a, u, p1, q1, us1, us2, rfl, ha, hu1, hp1, hx, hq1, hy⟩ := hw
      unfold Row.ok at hk
      unfold Row.deep at hd
      unfold Row.cnt at hc hq
      refine g_seq (g_ifs (g_or (g_not (g_tB (g_cb (g_cons (g_v0 (g_cons (g_c (g_nil (g_isTup (by walk_at "hx") (g_k (g_iteF (g_or (g_tst (g_op (g_cb (g_cons (g_v0 (g_nil (g_lnT (by walk_at "hx") (g_c (g_eqI (g_k (g_ifD0 (by simp) (g_or (g_not (g_tB (g_cb (g_cons (g_op (g_v0 (g_c (g_ixT (by walk_at "hx") (show atI _ _ = some _ from rfl) (g_cons (g_c (g_nil (g_isStr (g_k (g_iteF (g_tst (g_op (g_v3 (g_c (g_eqI (g_k (g_ifD0 (hr0) (g_next (g_seq (g_ifs (g_tst (g_op (g_op (g_v0 (g_c (g_ixT (by walk_at "hx") (show atI _ _ = some _ from rfl) (g_c (g_neS (g_k (g_ifN0 (by decide +kernel) (g_next (g_seq (g_ifs (g_or (g_tst (g_op (g_cb (g_cons (g_v0 (g_nil (g_lnT (by walk_at "hx") (g_c (g_neI (g_k (g_ifN0 (by simp) (g_not (g_tB (g_call (g_cons (g_op (g_v0 (g_c (g_ixT (by walk_at "hx") (show atI _ _ = some _ from rfl) (g_cons (g_v1 (g_nil ?_))))))))))))))))))))))))))))))))))))))))))))))))))))))))))))))))))))))))))))))))))))))
      refine ⟨c, u, b, bs, rfl, hu1, hk.1, hbs, hb, fun H1 e1 => ?_⟩
      refine g_k (g_iteF (g_next (g_seq (g_asg (g_op (g_call (g_cons (g_op (g_v0 (g_c (g_ixT (by walk_at "hx") (show atI _ _ = some _ from rfl) (g_cons (g_v1 (g_cons (g_v2 (g_cons (g_op (g_v3 (g_c (g_I0 (g_nil ?_)))))))))))))))))))))
      refine ⟨x, _, b, p, bs, ps, rm - 1, rfl, ⟨p1, us1, rfl, hp1.ex e1, (RwsAt.al hx).imp fun r u => RwAt.tx (Tx.ex e1) r u⟩, hk.2.1, by omega, by omega, by omega, hbs, hb.ex e1, hp.ex e1, fun H2 e2 => ?_⟩
      have e12 := e1.trans e2
      refine g_call (g_cons (g_op (g_v0 (g_c (g_ixT (by walk_at "hx") (show atI _ _ = some _ from rfl) (g_cons (g_v1 (g_cons (g_v2 (g_cons (g_op (g_v3 (g_c (g_I0 (g_nil ?_)))))))))))))))
      refine ⟨y, _, b, p, bs, ps, rm - 1, rfl, ⟨q1, us2, rfl, hq1.ex e12, (RwsAt.al hy).imp fun r u => RwAt.tx (Tx.ex e12) r u⟩, hk.2.2, by omega, by omega, by omega, hbs, hb.ex e12, hp.ex e12, fun H3 e3 => ?_⟩
      refine g_I0 (g_n4 (g_ret (g_op (g_c (g_v4 (g_I0 ?_))))))
      have e : (1 : Int) + ((Row.cnts x : Int) + (Row.cnts y : Int)) = ((1 + (Row.cnts x + Row.cnts y) : Nat) : Int) := by omega
      rw [e]
      exact hq _ (e12.trans e3)
def sp_are_rows : Sp := fun vs H Q _ => ∃ (rs : List Row) (v : V) (b p : Addr) (bs ps : List Nm), vs = [v, .ref b, .ref p] ∧ TpAt RwAt rs v H ∧ Row.oks bs ps rs ∧ Row.deeps rs ≤ 3 ∧ Row.cnts rs ≤ 12 ∧
  (∀ n ∈ bs, n ∈ nms) ∧ At H b (.lst (sV bs)) ∧ At H p (.lst (sV ps)) ∧ Ret (.bl true) H Q
abbrev N_are_rows : List Str := ["thing", "boxes", "places"]
theorem sc_are_rows : FnScope N_are_rows ["thing", "boxes", "places"] (defScope s_are_rows) := ⟨rfl, rfl, rfl, by decide +kernel, rfl, by decide +kernel, by decide +kernel⟩
theorem ok_are_rows (T : TX w K mg)  : Fn P w K mg base CX0 (18) "are_rows" ["thing", "boxes", "places"] (sp_are_rows) := by
  have f_many_in := ok_many_in (P := P) (base := base) T 3 (ok_many_by T 3)
  obtain ⟨fd, F⟩ := T.d_are_rows
  refine mk_fn F T.g_are_rows sc_are_rows (fun vs H Q E h => by obtain ⟨_, _, _, _, _, _, rfl, _⟩ := h; rfl) (fun _ _ _ _ _ _ us hl => match us, hl with | [_, _, _], _ => rfl) (fun cdv A outer s H vs Q E hr h => ?_)
  obtain ⟨rs, v, b, p, bs, ps, rfl, hw, hk, hd, hc, hbs, hb, hp, hq⟩ := h
  have hu := hu_of hr
  refine ⟨(tRet (tOp rLeI (tCall (sp_many_in 3) [] E0 (tCons (tVar 0) (tCons (tVar 1) (tCons (tVar 2) (tCons (tC (.int 3)) tNil))))) (tC (.int 12)))),
      (pss_one (ps_ret (pe_cmpR op_le (f_many_in.ex.elim fun _ q => q.elim fun _ q => pe_call q.1 (hr.mono (by omega)) (by rfl) q.2.1 q.2.2.1 q.2.2.2 .nil pass0 (pa_cons (pv 0) (pa_cons (pv 1) (pa_cons (pv 2) (pa_cons (pe_gint (by rfl) T.k_MOST_WITHIN) pa_nil))))) (pe_gint (by rfl) T.k_MOST_ROWS) (nomark _)))), ?_⟩
  refine g_start (σ' := [some _, some _, some _]) rfl ?_
  refine g_ret (g_op (g_call (g_cons (g_v0 (g_cons (g_v1 (g_cons (g_v2 (g_cons (g_c (g_nil ?_)))))))))))
  refine ⟨rs, v, b, p, bs, ps, 3, rfl, hw, hk, hd, by omega, hc, hbs, hb, hp, fun H1 e1 => ?_⟩
  refine g_c (g_I0 ?_)
  have e : decide ((Row.cnts rs : Int) ≤ 12) = true := decide_eq_true (by omega)
  show Q (.bl (decide ((Row.cnts rs : Int) ≤ 12))) H1
  rw [e]
  exact hq _ e1
end
end PM
/-! part F6 -/
namespace PM
open PySem PySem.Spec PyProof.Rows L2 PMH
open Evl (Ex)

local macro_rules | `(tactic| walk_at "ex") => `(tactic| first
  | with_reducible assumption
  | with_reducible exact Evl.Ex.refl _
  | (refine Evl.Ex.trans ?_ (by with_reducible assumption); walk_at "ex"))
local macro_rules | `(tactic| walk_at "hx") => `(tactic| first
  | with_reducible assumption
  | (refine At.ex (by with_reducible assumption) ?_; walk_at "ex")
  | (refine Fz.tx (by with_reducible assumption) ?_; walk_at "tx")
  | (refine TrAt.ex (by with_reducible assumption) ?_; walk_at "ex")
  | (refine MlAt.tx ?_ (by with_reducible assumption); walk_at "tx")
  | (refine PlAt.tx ?_ (by with_reducible assumption); walk_at "tx")
  | (refine LtAt.tx ?_ (by with_reducible assumption); walk_at "tx")
  | (refine GvAt.tx ?_ (by with_reducible assumption); walk_at "tx")
  | (refine WsAt.tx ?_ (by with_reducible assumption); walk_at "tx")
  | (refine RwAt.tx ?_ _ _ (by with_reducible assumption); walk_at "tx")
  | (refine RwsAt.tx ?_ _ _ (by with_reducible assumption); walk_at "tx")
  | (refine RuAt.tx ?_ (by with_reducible assumption); walk_at "tx")
  | (refine PrAt.tx ?_ (by with_reducible assumption); walk_at "tx"))
local macro_rules | `(tactic| walk_at "num") => `(tactic| first
  | with_reducible assumption
  | decide
  | exact Or.inl ⟨by omega, by omega⟩
  | exact Or.inr ⟨by omega, by omega⟩
  | (refine ⟨?_, ?_⟩ <;> omega)
  | (show (0 : Int) < _; omega))
local macro_rules | `(tactic| walk_at "tx") => `(tactic| first
  | with_reducible assumption
  | (refine Tx.ex ?_; walk_at "ex"))
local macro_rules | `(tactic| walk_at "sz") => `(tactic| first
  | with_reducible assumption
  | omega
  | (refine Evl.sz_of ?_; omega)
  | (refine Evl.sz_lt ?_; omega))
local macro_rules | `(tactic| walk_at "fl") => `(tactic| first
  | rfl
  | decide +kernel)

theorem g_lenNs {K : PySem.W.Frag} {ta : TE} {σ : L2.St} {H : Hp} {Q : VK} (h : ta σ H fun x H1 => ∃ l, ∃ xs : List Str, x = .ref l ∧ SqL K H1 l (xs.map V.str) ∧ xs.Nodup ∧ xs.length ≤ 1000 ∧ Q (.int xs.length) H1) : tLenNs K ta σ H Q := h
section
variable {P : Program} {w : World} {K : PySem.W.Frag} {mg : Str → Option Value} {base : Heap}
def sp_is_pair : Sp := fun vs H Q _ => ∃ (a : Addr) (x y : V), vs = [.ref a] ∧ At H a (.tup [x, y]) ∧ Q (.bl true) H
abbrev N_is_pair : List Str := ["thing"]
theorem sc_is_pair : FnScope N_is_pair ["thing"] (defScope s_is_pair) := ⟨rfl, rfl, rfl, by decide +kernel, rfl, by decide +kernel, by decide +kernel⟩
theorem ok_is_pair (T : TX w K mg)  : Fn P w K mg base CX0 (1) "is_pair" ["thing"] (sp_is_pair) := by
  obtain ⟨fd, F⟩ := T.d_is_pair
  refine mk_fn F T.g_is_pair sc_is_pair (fun vs H Q E h => by obtain ⟨_, _, _, rfl, _⟩ := h; rfl) (fun _ _ _ _ _ _ us hl => match us, hl with | [_], _ => rfl) (fun cdv A outer s H vs Q E hr h => ?_)
  obtain ⟨a, x, y, rfl, ha, hq⟩ := h
  have hu := hu_of hr
  refine ⟨(tRet (tAndV (tCB (rIsi K) (tCons (tVar 0) (tCons (tC (.ty "tuple")) tNil))) (tOp rEq (tCB (Evl.rLenS K) (tCons (tVar 0) tNil)) (tC (.int 2))))),
      (pss_one (ps_ret (pe_and (pe_callB call_isi (by rfl) T.b_isinstance bt_isinstance (pa_cons (pv 0) (pa_cons (pe_bltn (v := .ty "tuple") (by rfl) T.b_tuple bt_tuple rfl) pa_nil))) (pe_one (pe_cmpR op_eq (pe_callB cl_len (by rfl) T.b_len bt_len (pa_cons (pv 0) pa_nil)) pe_int (nomark _)))))), ?_⟩
  refine g_start (σ' := [some _]) rfl ?_
  refine g_ret (g_andV (g_cb (g_cons (g_v0 (g_cons (g_c (g_nil (g_isTup (by walk_at "hx") (g_k (g_iteT (g_op (g_cb (g_cons (g_v0 (g_nil (g_lnT (by walk_at "hx") (g_c (g_eqI ?_))))))))))))))))))
  exact hq
def sp_are_unlike : Sp := fun vs H Q _ => ∃ (a : Addr) (ns : List Nm), vs = [.ref a] ∧ At H a (.lst (sV ns)) ∧ ns.Nodup ∧ ns.length ≤ 1000 ∧ Q (.bl true) H
abbrev N_are_unlike : List Str := ["names"]
theorem sc_are_unlike : FnScope N_are_unlike ["names"] (defScope s_are_unlike) := ⟨rfl, rfl, rfl, by decide +kernel, rfl, by decide +kernel, by decide +kernel⟩
theorem ok_are_unlike (T : TX w K mg)  : Fn P w K mg base CX0 (1) "are_unlike" ["names"] (sp_are_unlike) := by
  obtain ⟨fd, F⟩ := T.d_are_unlike
  refine mk_fn F T.g_are_unlike sc_are_unlike (fun vs H Q E h => by obtain ⟨_, _, rfl, _⟩ := h; rfl) (fun _ _ _ _ _ _ us hl => match us, hl with | [_], _ => rfl) (fun cdv A outer s H vs Q E hr h => ?_)
  obtain ⟨a, ns, rfl, ha, hn, hl, hq⟩ := h
  have hu := hu_of hr
  refine ⟨(tRet (tOp rEq (tLenNs K (tVar 0)) (tCB (Evl.rLenS K) (tCons (tVar 0) tNil)))),
      (pss_one (ps_ret (pe_cmpR op_eq (pe_lenNs rfl (by rfl) T.b_len (by rfl) T.b_set (pv 0)) (pe_callB cl_len (by rfl) T.b_len bt_len (pa_cons (pv 0) pa_nil)) (nomark _)))), ?_⟩
  refine g_start (σ' := [some _]) rfl ?_
  refine g_ret (g_op ?_)
  refine g_lenNs (g_v0 ⟨a, ns, rfl, ha.sqL, hn, hl, ?_⟩)
  refine g_cb (g_cons (g_v0 (g_nil (g_lnL (by walk_at "hx") (g_eqI ?_)))))
  have e : decide ((ns.length : Int) = ((sV ns).length : Nat)) = true := decide_eq_true (by simp)
  rw [e]
  exact hq
def sp_are_boxes : Sp := fun vs H Q _ => ∃ (bx : Bx) (v : V), vs = [v] ∧ BxAt bx v H ∧ (∀ q ∈ bx, q.1 ∈ nms ∧ 0 ≤ q.2 ∧ q.2 < 100) ∧ (bx.map (·.1)).Nodup ∧ bx.length ≤ 3 ∧ Ret (.bl true) H Q
abbrev N_are_boxes : List Str := ["thing", "name", "number", "one"]
theorem sc_are_boxes : FnScope N_are_boxes ["thing"] (defScope s_are_boxes) := ⟨rfl, rfl, rfl, by decide +kernel, rfl, by decide +kernel, by decide +kernel⟩
theorem ok_are_boxes (T : TX w K mg)  : Fn P w K mg base CX0 (2) "are_boxes" ["thing"] (sp_are_boxes) := by
  have f_is_pair := ok_is_pair (P := P) (base := base) T
  have f_is_name := ok_is_name (P := P) (base := base) T
  have f_is_number := ok_is_number (P := P) (base := base) T
  have f_are_unlike := ok_are_unlike (P := P) (base := base) T
  obtain ⟨fd, F⟩ := T.d_are_boxes
  refine mk_fn F T.g_are_boxes sc_are_boxes (fun vs H Q E h => by obtain ⟨_, _, rfl, _⟩ := h; rfl) (fun _ _ _ _ _ _ us hl => match us, hl with | [_], _ => rfl) (fun cdv A outer s H vs Q E hr h => ?_)
  obtain ⟨bx, v, rfl, hw, hk, hn, hl, hq⟩ := h
  have hu := hu_of hr
  refine ⟨(tSeq (tIfS (tOr (tNot (tB (tCB (rIsi K) (tCons (tVar 0) (tCons (tC (.ty "tuple")) tNil))))) (tOr (tTest (tOp rGtI (tCB (Evl.rLenS K) (tCons (tVar 0) tNil)) (tC (.int 4)))) (tNot (tB (tCB (rAll K) (tCons (tLc (iTup K (tVar 0)) (gName 3) tYes (tCall sp_is_pair [] E0 (tCons (tVar 3) tNil)) [3]) tNil)))))) (tRet (tC (.bl false))) tNext) (tSeq (tIfS (tNot (tB (tCB (rAll K) (tCons (tLc (iTup K (tVar 0)) (gTup K 2 (gCons (gName 1) (gCons (gName 2) gNil))) tYes (tAndV (tCall sp_is_name [] E0 (tCons (tVar 1) tNil)) (tCall sp_is_number [] E0 (tCons (tVar 2) tNil))) [1, 2]) tNil)))) (tRet (tC (.bl false))) tNext) (tRet (tCall sp_are_unlike [] E0 (tCons (tLc (iTup K (tVar 0)) (gTup K 2 (gCons (gName 1) (gCons (gName 2) gNil))) tYes (tVar 1) [1, 2]) tNil))))),
      (pss_cons (ps_if (PW.pt (pw_or (pt_not (pt_val (pe_callB call_isi (by rfl) T.b_isinstance bt_isinstance (pa_cons (pv 0) (pa_cons (pe_bltn (v := .ty "tuple") (by rfl) T.b_tuple bt_tuple rfl) pa_nil))))) (pw_or (pt_cmpR op_gt (pe_callB cl_len (by rfl) T.b_len bt_len (pa_cons (pv 0) pa_nil)) (pe_gint (by rfl) T.k_MOST_BOXES) (nomark _)) (pw_or1 (pt_not (pt_val (pe_callB (cr_all rfl) (by rfl) T.b_all bt_all (pa_cons (pe_lc (own := [("one", 3)]) (wi := (iTup K (tVar 0))) (g := (gName 3)) (tt := tYes) (te := (tCall sp_is_pair [] E0 (tCons (tVar 3) tNil))) rfl sc_are_boxes.nd (pi_tup (pv 0)) (blkOk_by (N := N_are_boxes) (sc := defScope s_are_boxes) (by decide +kernel)) (fun _ _ _ _ _ => (pg_name (i := 3) sc_are_boxes.nd rfl (Or.inl rfl))) (fun _ _ _ _ _ => pts_nil) (fun _ _ _ _ _ => (f_is_pair.ex.elim fun _ q => q.elim fun _ q => pe_call q.1 (hr.mono (by omega)) (by rfl) q.2.1 q.2.2.1 q.2.2.2 .nil pass0 (pa_cons (pv 3) pa_nil)))) pa_nil)))))))) (pss_one (ps_ret pe_bl)) pss_nil)
      (pss_cons (ps_if (pt_not (pt_val (pe_callB (cr_all rfl) (by rfl) T.b_all bt_all (pa_cons (pe_lc (own := [("name", 1), ("number", 2)]) (wi := (iTup K (tVar 0))) (g := (gTup K 2 (gCons (gName 1) (gCons (gName 2) gNil)))) (tt := tYes) (te := (tAndV (tCall sp_is_name [] E0 (tCons (tVar 1) tNil)) (tCall sp_is_number [] E0 (tCons (tVar 2) tNil)))) rfl sc_are_boxes.nd (pi_tup (pv 0)) (blkOk_by (N := N_are_boxes) (sc := defScope s_are_boxes) (by decide +kernel)) (fun _ _ _ _ _ => (pg_tup rfl (pgs_cons (pg_name (i := 1) sc_are_boxes.nd rfl (Or.inl rfl)) (pgs_cons (pg_name (i := 2) sc_are_boxes.nd rfl (Or.inl rfl)) pgs_nil)))) (fun _ _ _ _ _ => pts_nil) (fun _ _ _ _ _ => (pe_and (f_is_name.ex.elim fun _ q => q.elim fun _ q => pe_call q.1 (hr.mono (by omega)) (by rfl) q.2.1 q.2.2.1 q.2.2.2 .nil pass0 (pa_cons (pv 1) pa_nil)) (pe_one (f_is_number.ex.elim fun _ q => q.elim fun _ q => pe_call q.1 (hr.mono (by omega)) (by rfl) q.2.1 q.2.2.1 q.2.2.2 .nil pass0 (pa_cons (pv 2) pa_nil)))))) pa_nil)))) (pss_one (ps_ret pe_bl)) pss_nil)
      (pss_one (ps_ret (f_are_unlike.ex.elim fun _ q => q.elim fun _ q => pe_call q.1 (hr.mono (by omega)) (by rfl) q.2.1 q.2.2.1 q.2.2.2 .nil pass0 (pa_cons (pe_lc (own := [("name", 1), ("number", 2)]) (wi := (iTup K (tVar 0))) (g := (gTup K 2 (gCons (gName 1) (gCons (gName 2) gNil)))) (tt := tYes) (te := (tVar 1)) rfl sc_are_boxes.nd (pi_tup (pv 0)) (blkOk_by (N := N_are_boxes) (sc := defScope s_are_boxes) (by decide +kernel)) (fun _ _ _ _ _ => (pg_tup rfl (pgs_cons (pg_name (i := 1) sc_are_boxes.nd rfl (Or.inl rfl)) (pgs_cons (pg_name (i := 2) sc_are_boxes.nd rfl (Or.inl rfl)) pgs_nil)))) (fun _ _ _ _ _ => pts_nil) (fun _ _ _ _ _ => (pv 1))) pa_nil)))))), ?_⟩
  refine g_start (σ' := [some _, none, none, none]) rfl ?_
  obtain ⟨c, us, rfl, hc, hal⟩ := hw
  have hlu := hal.len
  have hc1 := hc
  refine g_seq (g_ifs (g_or (g_not (g_tB (g_cb (g_cons (g_v0 (g_cons (g_c (g_nil (g_isTupF (by walk_at "hx") (g_k (g_iteF (g_or (g_tst (g_op (g_cb (g_cons (g_v0 (g_nil (g_lnF (by walk_at "hx") (g_c (g_I0 (g_k (g_ifD0 (by omega) (g_not (g_tB (g_cb (g_cons (g_lcT (g_v0 ?_)))))))))))))))))))))))))))))))
  refine lc_mapF (R := PrAt) (ds := bx) (h := fun _ => .bl true) hc hal (by omega) (fun r u H1 e h => h.tx (Tx.ex e)) (fun r hm u H1 e1 hR Y N hY => ?_) (fun D H1 _ e1 hD => ?_)
  · obtain ⟨d, rfl, hd⟩ := hR
    refine g_n3 (And.intro rfl (g_yes (g_iteT (g_call (g_cons (g_v3 (g_nil ?_)))))))
    exact ⟨d, _, _, rfl, hd, hY _ (Evl.Ex.refl _)⟩
  ·
    refine g_nil ?_
    refine g_allT hD (all_yes _) ?_
    refine g_k (g_iteF (g_next (g_seq (g_ifs (g_not (g_tB (g_cb (g_cons (g_lcT (g_v0 ?_))))))))))
    refine lc_mapF (R := PrAt) (ds := bx) (h := fun _ => .bl true) (hc.tx (Tx.ex e1)) (hal.imp fun r u h => h.tx (Tx.ex e1)) (by omega) (fun r u H1 e h => h.tx (Tx.ex e)) (fun r hm u H2 e2 hR Y N hY => ?_) (fun D2 H2 _ e2 hD2 => ?_)
    · obtain ⟨d, rfl, hd⟩ := hR
      obtain ⟨k1, k2, k3⟩ := hk r hm
      refine g_gtup (by walk_at "hx") rfl (g_gcons (g_n1 (g_gcons (g_n2 (g_gnil (And.intro rfl (g_yes (g_iteT (g_andV (g_call (g_cons (g_v1 (g_nil ?_)))))))))))))
      refine ⟨r.1, rfl, k1, ?_⟩
      refine g_k (g_iteT (g_call (g_cons (g_v2 (g_nil ?_)))))
      exact ⟨r.2, rfl, k2, k3, hY _ (Evl.Ex.refl _)⟩
    · have e12 := e1.trans e2
      refine g_nil ?_
      refine g_allT hD2 (all_yes _) ?_
      refine g_k (g_iteF (g_next (g_ret (g_call (g_cons (g_lcT (g_v0 ?_)))))))
      refine lc_mapF (R := PrAt) (ds := bx) (h := fun p => .str p.1) (hc.tx (Tx.ex e12)) (hal.imp fun r u h => h.tx (Tx.ex e12)) (by omega) (fun r u H1 e h => h.tx (Tx.ex e)) (fun r hm u H3 e3 hR Y N hY => ?_) (fun D3 H3 _ e3 hD3 => ?_)
      · obtain ⟨d, rfl, hd⟩ := hR
        refine g_gtup (by walk_at "hx") rfl (g_gcons (g_n1 (g_gcons (g_n2 (g_gnil (And.intro rfl (g_yes (g_iteT (g_v1 ?_)))))))))
        exact hY _ (Evl.Ex.refl _)
      ·
        refine g_nil ?_
        exact ⟨D3, bx.map (·.1), rfl, by rw [sV_map]; exact hD3, hn, by rw [List.length_map]; omega, hq _ (e12.trans e3)⟩
def sp_are_rules : Sp := fun vs H Q _ => ∃ (ru : List (Nm × List Row)) (v : V) (b p : Addr) (bs ps : List Nm), vs = [v, .ref b, .ref p] ∧ TpAt RuAt ru v H ∧ (∀ q ∈ ru, q.1 ∈ nms ∧ Row.oks bs ps q.2 ∧ Row.deeps q.2 ≤ 3 ∧ Row.cnts q.2 ≤ 12) ∧ (ru.map (·.1)).Nodup ∧ ru.length ≤ 3 ∧
  (∀ n ∈ bs, n ∈ nms) ∧ At H b (.lst (sV bs)) ∧ At H p (.lst (sV ps)) ∧ Ret (.bl true) H Q
abbrev N_are_rules : List Str := ["thing", "boxes", "places", "kind", "rows", "one"]
theorem sc_are_rules : FnScope N_are_rules ["thing", "boxes", "places"] (defScope s_are_rules) := ⟨rfl, rfl, rfl, by decide +kernel, rfl, by decide +kernel, by decide +kernel⟩
theorem ok_are_rules (T : TX w K mg)  : Fn P w K mg base CX0 (19) "are_rules" ["thing", "boxes", "places"] (sp_are_rules) := by
  have f_is_pair := ok_is_pair (P := P) (base := base) T
  have f_is_name := ok_is_name (P := P) (base := base) T
  have f_are_unlike := ok_are_unlike (P := P) (base := base) T
  have f_are_rows := ok_are_rows (P := P) (base := base) T
  obtain ⟨fd, F⟩ := T.d_are_rules
  refine mk_fn F T.g_are_rules sc_are_rules (fun vs H Q E h => by obtain ⟨_, _, _, _, _, _, rfl, _⟩ := h; rfl) (fun _ _ _ _ _ _ us hl => match us, hl with | [_, _, _], _ => rfl) (fun cdv A outer s H vs Q E hr h => ?_)
  obtain ⟨ru, v, b, p, bs, ps, rfl, hw, hk, hn, hl, hbs, hb, hp, hq⟩ := h
  have hu := hu_of hr
  refine ⟨(tSeq (tIfS (tOr (tNot (tB (tCB (rIsi K) (tCons (tVar 0) (tCons (tC (.ty "tuple")) tNil))))) (tOr (tTest (tOp rGtI (tCB (Evl.rLenS K) (tCons (tVar 0) tNil)) (tC (.int 4)))) (tNot (tB (tCB (rAll K) (tCons (tLc (iTup K (tVar 0)) (gName 5) tYes (tCall sp_is_pair [] E0 (tCons (tVar 5) tNil)) [5]) tNil)))))) (tRet (tC (.bl false))) tNext) (tSeq (tIfS (tOr (tNot (tB (tCB (rAll K) (tCons (tLc (iTup K (tVar 0)) (gTup K 2 (gCons (gName 3) (gCons (gName 4) gNil))) tYes (tCall sp_is_name [] E0 (tCons (tVar 3) tNil)) [3, 4]) tNil)))) (tNot (tB (tCall sp_are_unlike [] E0 (tCons (tLc (iTup K (tVar 0)) (gTup K 2 (gCons (gName 3) (gCons (gName 4) gNil))) tYes (tVar 3) [3, 4]) tNil))))) (tRet (tC (.bl false))) tNext) (tRet (tCB (rAll K) (tCons (tLc (iTup K (tVar 0)) (gTup K 2 (gCons (gName 3) (gCons (gName 4) gNil))) tYes (tCall sp_are_rows [] E0 (tCons (tVar 4) (tCons (tVar 1) (tCons (tVar 2) tNil)))) [3, 4]) tNil))))),
      (pss_cons (ps_if (PW.pt (pw_or (pt_not (pt_val (pe_callB call_isi (by rfl) T.b_isinstance bt_isinstance (pa_cons (pv 0) (pa_cons (pe_bltn (v := .ty "tuple") (by rfl) T.b_tuple bt_tuple rfl) pa_nil))))) (pw_or (pt_cmpR op_gt (pe_callB cl_len (by rfl) T.b_len bt_len (pa_cons (pv 0) pa_nil)) (pe_gint (by rfl) T.k_MOST_RULES) (nomark _)) (pw_or1 (pt_not (pt_val (pe_callB (cr_all rfl) (by rfl) T.b_all bt_all (pa_cons (pe_lc (own := [("one", 5)]) (wi := (iTup K (tVar 0))) (g := (gName 5)) (tt := tYes) (te := (tCall sp_is_pair [] E0 (tCons (tVar 5) tNil))) rfl sc_are_rules.nd (pi_tup (pv 0)) (blkOk_by (N := N_are_rules) (sc := defScope s_are_rules) (by decide +kernel)) (fun _ _ _ _ _ => (pg_name (i := 5) sc_are_rules.nd rfl (Or.inl rfl))) (fun _ _ _ _ _ => pts_nil) (fun _ _ _ _ _ => (f_is_pair.ex.elim fun _ q => q.elim fun _ q => pe_call q.1 (hr.mono (by omega)) (by rfl) q.2.1 q.2.2.1 q.2.2.2 .nil pass0 (pa_cons (pv 5) pa_nil)))) pa_nil)))))))) (pss_one (ps_ret pe_bl)) pss_nil)
      (pss_cons (ps_if (PW.pt (pw_or (pt_not (pt_val (pe_callB (cr_all rfl) (by rfl) T.b_all bt_all (pa_cons (pe_lc (own := [("kind", 3), ("rows", 4)]) (wi := (iTup K (tVar 0))) (g := (gTup K 2 (gCons (gName 3) (gCons (gName 4) gNil)))) (tt := tYes) (te := (tCall sp_is_name [] E0 (tCons (tVar 3) tNil))) rfl sc_are_rules.nd (pi_tup (pv 0)) (blkOk_by (N := N_are_rules) (sc := defScope s_are_rules) (by decide +kernel)) (fun _ _ _ _ _ => (pg_tup rfl (pgs_cons (pg_name (i := 3) sc_are_rules.nd rfl (Or.inl rfl)) (pgs_cons (pg_name (i := 4) sc_are_rules.nd rfl (Or.inl rfl)) pgs_nil)))) (fun _ _ _ _ _ => pts_nil) (fun _ _ _ _ _ => (f_is_name.ex.elim fun _ q => q.elim fun _ q => pe_call q.1 (hr.mono (by omega)) (by rfl) q.2.1 q.2.2.1 q.2.2.2 .nil pass0 (pa_cons (pv 3) pa_nil)))) pa_nil)))) (pw_or1 (pt_not (pt_val (f_are_unlike.ex.elim fun _ q => q.elim fun _ q => pe_call q.1 (hr.mono (by omega)) (by rfl) q.2.1 q.2.2.1 q.2.2.2 .nil pass0 (pa_cons (pe_lc (own := [("kind", 3), ("rows", 4)]) (wi := (iTup K (tVar 0))) (g := (gTup K 2 (gCons (gName 3) (gCons (gName 4) gNil)))) (tt := tYes) (te := (tVar 3)) rfl sc_are_rules.nd (pi_tup (pv 0)) (blkOk_by (N := N_are_rules) (sc := defScope s_are_rules) (by decide +kernel)) (fun _ _ _ _ _ => (pg_tup rfl (pgs_cons (pg_name (i := 3) sc_are_rules.nd rfl (Or.inl rfl)) (pgs_cons (pg_name (i := 4) sc_are_rules.nd rfl (Or.inl rfl)) pgs_nil)))) (fun _ _ _ _ _ => pts_nil) (fun _ _ _ _ _ => (pv 3))) pa_nil))))))) (pss_one (ps_ret pe_bl)) pss_nil)
      (pss_one (ps_ret (pe_callB (cr_all rfl) (by rfl) T.b_all bt_all (pa_cons (pe_lc (own := [("kind", 3), ("rows", 4)]) (wi := (iTup K (tVar 0))) (g := (gTup K 2 (gCons (gName 3) (gCons (gName 4) gNil)))) (tt := tYes) (te := (tCall sp_are_rows [] E0 (tCons (tVar 4) (tCons (tVar 1) (tCons (tVar 2) tNil))))) rfl sc_are_rules.nd (pi_tup (pv 0)) (blkOk_by (N := N_are_rules) (sc := defScope s_are_rules) (by decide +kernel)) (fun _ _ _ _ _ => (pg_tup rfl (pgs_cons (pg_name (i := 3) sc_are_rules.nd rfl (Or.inl rfl)) (pgs_cons (pg_name (i := 4) sc_are_rules.nd rfl (Or.inl rfl)) pgs_nil)))) (fun _ _ _ _ _ => pts_nil) (fun _ _ _ _ _ => (f_are_rows.ex.elim fun _ q => q.elim fun _ q => pe_call q.1 (hr.mono (by omega)) (by rfl) q.2.1 q.2.2.1 q.2.2.2 .nil pass0 (pa_cons (pv 4) (pa_cons (pv 1) (pa_cons (pv 2) pa_nil)))))) pa_nil)))))), ?_⟩
  refine g_start (σ' := [some _, some _, some _, none, none, none]) rfl ?_
  obtain ⟨c, us, rfl, hc, hal⟩ := hw
  have hlu := hal.len
  refine g_seq (g_ifs (g_or (g_not (g_tB (g_cb (g_cons (g_v0 (g_cons (g_c (g_nil (g_isTup (by walk_at "hx") (g_k (g_iteF (g_or (g_tst (g_op (g_cb (g_cons (g_v0 (g_nil (g_lnT (by walk_at "hx") (g_c (g_I0 (g_k (g_ifD0 (by omega) (g_not (g_tB (g_cb (g_cons (g_lcT (g_v0 ?_)))))))))))))))))))))))))))))))
  refine lc_mapT (R := RuAt) (ds := ru) (h := fun _ => .bl true) hc hal (by omega) (fun r u H1 e h => h.tx (Tx.ex e)) (fun r hm u H1 e1 hR Y N hY => ?_) (fun D H1 _ e1 hD => ?_)
  · obtain ⟨d, x, rfl, hd, _⟩ := hR
    refine g_n5 (And.intro rfl (g_yes (g_iteT (g_call (g_cons (g_v5 (g_nil ?_)))))))
    exact ⟨d, _, _, rfl, hd, hY _ (Evl.Ex.refl _)⟩
  ·
    refine g_nil ?_
    refine g_allT hD (all_yes _) ?_
    refine g_k (g_iteF (g_next (g_seq (g_ifs (g_or (g_not (g_tB (g_cb (g_cons (g_lcT (g_v0 ?_)))))))))))
    refine lc_mapT (R := RuAt) (ds := ru) (h := fun _ => .bl true) (hc.ex e1) (hal.imp fun r u h => h.tx (Tx.ex e1)) (by omega) (fun r u H1 e h => h.tx (Tx.ex e)) (fun r hm u H2 e2 hR Y N hY => ?_) (fun D2 H2 _ e2 hD2 => ?_)
    · obtain ⟨d, x, rfl, hd, _⟩ := hR
      refine g_gtup (by walk_at "hx") rfl (g_gcons (g_n3 (g_gcons (g_n4 (g_gnil (And.intro rfl (g_yes (g_iteT (g_call (g_cons (g_v3 (g_nil ?_))))))))))))
      exact ⟨r.1, rfl, (hk r hm).1, hY _ (Evl.Ex.refl _)⟩
    · have e12 := e1.trans e2
      refine g_nil ?_
      refine g_allT hD2 (all_yes _) ?_
      refine g_k (g_iteF (g_not (g_tB (g_call (g_cons (g_lcT (g_v0 ?_)))))))
      refine lc_mapT (R := RuAt) (ds := ru) (h := fun p => .str p.1) (hc.ex e12) (hal.imp fun r u h => h.tx (Tx.ex e12)) (by omega) (fun r u H1 e h => h.tx (Tx.ex e)) (fun r hm u H3 e3 hR Y N hY => ?_) (fun D3 H3 _ e3 hD3 => ?_)
      · obtain ⟨d, x, rfl, hd, _⟩ := hR
        refine g_gtup (by walk_at "hx") rfl (g_gcons (g_n3 (g_gcons (g_n4 (g_gnil (And.intro rfl (g_yes (g_iteT (g_v3 ?_)))))))))
        exact hY _ (Evl.Ex.refl _)
      · have e13 := e12.trans e3
        refine g_nil ?_
        refine ⟨D3, ru.map (·.1), rfl, by rw [sV_map]; exact hD3, hn, by rw [List.length_map]; omega, ?_⟩
        refine g_k (g_iteF (g_next (g_ret (g_cb (g_cons (g_lcT (g_v0 ?_)))))))
        refine lc_mapT (R := RuAt) (ds := ru) (h := fun _ => .bl true) (hc.ex e13) (hal.imp fun r u h => h.tx (Tx.ex e13)) (by omega) (fun r u H1 e h => h.tx (Tx.ex e)) (fun r hm u H4 e4 hR Y N hY => ?_) (fun D4 H4 _ e4 hD4 => ?_)
        · obtain ⟨d, x, rfl, hd, hx⟩ := hR
          obtain ⟨k1, k2, k3, k4⟩ := hk r hm
          refine g_gtup (by walk_at "hx") rfl (g_gcons (g_n3 (g_gcons (g_n4 (g_gnil (And.intro rfl (g_yes (g_iteT (g_call (g_cons (g_v4 (g_cons (g_v1 (g_cons (g_v2 (g_nil ?_))))))))))))))))
          exact ⟨r.2, x, b, p, bs, ps, rfl, hx, k2, k3, k4, hbs, by walk_at "hx", by walk_at "hx", fun H5 e5 => hY H5 e5⟩
        ·
          refine g_nil ?_
          refine g_allT hD4 (all_yes _) ?_
          exact hq _ (e13.trans e4)
end
end PM
/-! part F7 -/
namespace PM
open PySem PySem.Spec PyProof.Rows L2 PMH
open Evl (Ex)

local macro_rules | `(tactic| walk_at "ex") => `(tactic| first
  | with_reducible assumption
  | with_reducible exact Evl.Ex.refl _
  | (refine Evl.Ex.trans ?_ (by with_reducible assumption); walk_at "ex"))
local macro_rules | `(tactic| walk_at "hx") => `(tactic| first
  | with_reducible assumption
  | (refine At.ex (by with_reducible assumption) ?_; walk_at "ex")
  | (refine Fz.tx (by with_reducible assumption) ?_; walk_at "tx")
  | (refine TrAt.ex (by with_reducible assumption) ?_; walk_at "ex")
  | (refine MlAt.tx ?_ (by with_reducible assumption); walk_at "tx")
  | (refine PlAt.tx ?_ (by with_reducible assumption); walk_at "tx")
  | (refine LtAt.tx ?_ (by with_reducible assumption); walk_at "tx")
  | (refine GvAt.tx ?_ (by with_reducible assumption); walk_at "tx")
  | (refine WsAt.tx ?_ (by with_reducible assumption); walk_at "tx")
  | (refine RwAt.tx ?_ _ _ (by with_reducible assumption); walk_at "tx")
  | (refine RwsAt.tx ?_ _ _ (by with_reducible assumption); walk_at "tx")
  | (refine RuAt.tx ?_ (by with_reducible assumption); walk_at "tx")
  | (refine PrAt.tx ?_ (by with_reducible assumption); walk_at "tx"))
local macro_rules | `(tactic| walk_at "num") => `(tactic| first
  | with_reducible assumption
  | decide
  | exact Or.inl ⟨by omega, by omega⟩
  | exact Or.inr ⟨by omega, by omega⟩
  | (refine ⟨?_, ?_⟩ <;> omega)
  | (show (0 : Int) < _; omega))
local macro_rules | `(tactic| walk_at "tx") => `(tactic| first
  | with_reducible assumption
  | (refine Tx.ex ?_; walk_at "ex"))
local macro_rules | `(tactic| walk_at "sz") => `(tactic| first
  | with_reducible assumption
  | omega
  | (refine Evl.sz_of ?_; omega)
  | (refine Evl.sz_lt ?_; omega))
local macro_rules | `(tactic| walk_at "fl") => `(tactic| first
  | rfl
  | decide +kernel)

theorem nmsP_nms {n : Nm} (h : n ∈ nmsP) : n ∈ nms := List.mem_append_left _ (List.mem_append_left _ h)
theorem nmsB_nms {n : Nm} (h : n ∈ nmsB) : n ∈ nms := List.mem_append_left _ (List.mem_append_right _ h)
theorem kinds_nms {n : Nm} (h : n ∈ kinds) : n ∈ nms := List.mem_append_right _ h
theorem PlOk.bnames {ps : List Nm} {p : Pl} (h : PlOk ps p) : ∀ n ∈ p.boxes.map (·.1), n ∈ nms := fun n m => by
  obtain ⟨q, hq, rfl⟩ := List.mem_map.mp m
  exact nmsB_nms (h.boxes q hq).1
section
variable {P : Program} {w : World} {K : PySem.W.Frag} {mg : Str → Option Value} {base : Heap}
def sp_is_place : Sp := fun vs H Q _ => ∃ (p : Pl) (v : V) (ps : List Nm), vs = [v] ∧ PlAt p v H ∧ PlOk ps p ∧ Ret (.bl true) H Q
abbrev N_is_place : List Str := ["thing"]
theorem sc_is_place : FnScope N_is_place ["thing"] (defScope s_is_place) := ⟨rfl, rfl, rfl, by decide +kernel, rfl, by decide +kernel, by decide +kernel⟩
theorem ok_is_place (T : TX w K mg)  : Fn P w K mg base CX0 (3) "is_place" ["thing"] (sp_is_place) := by
  have f_is_name := ok_is_name (P := P) (base := base) T
  have f_are_boxes := ok_are_boxes (P := P) (base := base) T
  obtain ⟨fd, F⟩ := T.d_is_place
  refine mk_fn F T.g_is_place sc_is_place (fun vs H Q E h => by obtain ⟨_, _, _, rfl, _⟩ := h; rfl) (fun _ _ _ _ _ _ us hl => match us, hl with | [_], _ => rfl) (fun cdv A outer s H vs Q E hr h => ?_)
  obtain ⟨p, v, ps, rfl, hw, hk, hq⟩ := h
  have hu := hu_of hr
  refine ⟨(tRet (tAndV (tCB (rIsi K) (tCons (tVar 0) (tCons (tC (.ty "tuple")) tNil))) (tAndV (tOp rEq (tCB (Evl.rLenS K) (tCons (tVar 0) tNil)) (tC (.int 3))) (tAndV (tCall sp_is_name [] E0 (tCons (tOp (rIxT K) (tVar 0) (tC (.int 0))) tNil)) (tCall sp_are_boxes [] E0 (tCons (tOp (rIxT K) (tVar 0) (tC (.int 1))) tNil)))))),
      (pss_one (ps_ret (pe_and (pe_callB call_isi (by rfl) T.b_isinstance bt_isinstance (pa_cons (pv 0) (pa_cons (pe_bltn (v := .ty "tuple") (by rfl) T.b_tuple bt_tuple rfl) pa_nil))) (pe_and (pe_cmpR op_eq (pe_callB cl_len (by rfl) T.b_len bt_len (pa_cons (pv 0) pa_nil)) pe_int (nomark _)) (pe_and (f_is_name.ex.elim fun _ q => q.elim fun _ q => pe_call q.1 (hr.mono (by omega)) (by rfl) q.2.1 q.2.2.1 q.2.2.2 .nil pass0 (pa_cons (pe_ix ix_tup (pv 0) pe_int (fun _ _ => rfl)) pa_nil)) (pe_one (f_are_boxes.ex.elim fun _ q => q.elim fun _ q => pe_call q.1 (hr.mono (by omega)) (by rfl) q.2.1 q.2.2.1 q.2.2.2 .nil pass0 (pa_cons (pe_ix ix_tup (pv 0) pe_int (fun _ _ => rfl)) pa_nil)))))))), ?_⟩
  refine g_start (σ' := [some _]) rfl ?_
  obtain ⟨c, u1, u2, rfl, hc, h1, h2⟩ := hw
  refine g_ret (g_andV (g_cb (g_cons (g_v0 (g_cons (g_c (g_nil (g_isTup (by walk_at "hx") (g_k (g_iteT (g_andV (g_op (g_cb (g_cons (g_v0 (g_nil (g_lnT (by walk_at "hx") (g_c (g_eqI (g_k (g_ifD1 (by simp) (g_andV (g_call (g_cons (g_op (g_v0 (g_c (g_ixT (by walk_at "hx") (show atI _ _ = some _ from rfl) (g_nil ?_)))))))))))))))))))))))))))))
  refine ⟨p.name, rfl, nmsP_nms hk.name, ?_⟩
  refine g_k (g_iteT (g_call (g_cons (g_op (g_v0 (g_c (g_ixT (by walk_at "hx") (show atI _ _ = some _ from rfl) (g_nil ?_))))))))
  exact ⟨p.boxes, u1, rfl, h1, fun q m => ⟨nmsB_nms (hk.boxes q m).1, (hk.boxes q m).2⟩, hk.nd, hk.few, hq⟩
def sp_is_mill : Sp := fun vs H Q _ => ∃ (m : List Pl) (v : V), vs = [v] ∧ MlAt m v H ∧ MlOk m ∧ Ret (.bl true) H Q
abbrev N_is_mill : List Str := ["thing", "names", "place", "name", "number"]
theorem sc_is_mill : FnScope N_is_mill ["thing"] (defScope s_is_mill) := ⟨rfl, rfl, rfl, by decide +kernel, rfl, by decide +kernel, by decide +kernel⟩
theorem ok_is_mill (T : TX w K mg)  : Fn P w K mg base CX0 (20) "is_mill" ["thing"] (sp_is_mill) := by
  have f_is_place := ok_is_place (P := P) (base := base) T
  have f_are_unlike := ok_are_unlike (P := P) (base := base) T
  have f_are_rules := ok_are_rules (P := P) (base := base) T
  obtain ⟨fd, F⟩ := T.d_is_mill
  refine mk_fn F T.g_is_mill sc_is_mill (fun vs H Q E h => by obtain ⟨_, _, rfl, _⟩ := h; rfl) (fun _ _ _ _ _ _ us hl => match us, hl with | [_], _ => rfl) (fun cdv A outer s H vs Q E hr h => ?_)
  obtain ⟨m, v, rfl, hw, hk, hq⟩ := h
  have hu := hu_of hr
  refine ⟨(tSeq (tIfS (tOr (tNot (tB (tCB (rIsi K) (tCons (tVar 0) (tCons (tC (.ty "tuple")) tNil))))) (tNot (tTest (tChain rLeI rLeI (tC (.int 1)) (tCB (Evl.rLenS K) (tCons (tVar 0) tNil)) (tC (.int 6)))))) (tRet (tC (.bl false))) tNext) (tSeq (tIfS (tNot (tB (tCB (rAll K) (tCons (tLc (iTup K (tVar 0)) (gName 2) tYes (tCall sp_is_place [] E0 (tCons (tVar 2) tNil)) [2]) tNil)))) (tRet (tC (.bl false))) tNext) (tSeq (tAsg (tLc (iTup K (tVar 0)) (gName 2) tYes (tOp (rIxT K) (tVar 2) (tC (.int 0))) [2]) (gName 1)) (tSeq (tIfS (tNot (tB (tCall sp_are_unlike [] E0 (tCons (tVar 1) tNil)))) (tRet (tC (.bl false))) tNext) (tRet (tCB (rAll K) (tCons (tLc (iTup K (tVar 0)) (gName 2) tYes (tCall sp_are_rules [] E0 (tCons (tOp (rIxT K) (tVar 2) (tC (.int 2))) (tCons (tLc (iTup K (tOp (rIxT K) (tVar 2) (tC (.int 1)))) (gTup K 2 (gCons (gName 3) (gCons (gName 4) gNil))) tYes (tVar 3) [3, 4]) (tCons (tVar 1) tNil)))) [2]) tNil))))))),
      (pss_cons (ps_if (PW.pt (pw_or (pt_not (pt_val (pe_callB call_isi (by rfl) T.b_isinstance bt_isinstance (pa_cons (pv 0) (pa_cons (pe_bltn (v := .ty "tuple") (by rfl) T.b_tuple bt_tuple rfl) pa_nil))))) (pw_or1 (pt_not (pt_chain op_le op_le pe_int (pe_callB cl_len (by rfl) T.b_len bt_len (pa_cons (pv 0) pa_nil)) (pe_gint (by rfl) T.k_MOST_PLACES)))))) (pss_one (ps_ret pe_bl)) pss_nil)
      (pss_cons (ps_if (pt_not (pt_val (pe_callB (cr_all rfl) (by rfl) T.b_all bt_all (pa_cons (pe_lc (own := [("place", 2)]) (wi := (iTup K (tVar 0))) (g := (gName 2)) (tt := tYes) (te := (tCall sp_is_place [] E0 (tCons (tVar 2) tNil))) rfl sc_is_mill.nd (pi_tup (pv 0)) (blkOk_by (N := N_is_mill) (sc := defScope s_is_mill) (by decide +kernel)) (fun _ _ _ _ _ => (pg_name (i := 2) sc_is_mill.nd rfl (Or.inl rfl))) (fun _ _ _ _ _ => pts_nil) (fun _ _ _ _ _ => (f_is_place.ex.elim fun _ q => q.elim fun _ q => pe_call q.1 (hr.mono (by omega)) (by rfl) q.2.1 q.2.2.1 q.2.2.2 .nil pass0 (pa_cons (pv 2) pa_nil)))) pa_nil)))) (pss_one (ps_ret pe_bl)) pss_nil)
      (pss_cons (ps_set (i := 1) sc_is_mill.nd rfl (Or.inr rfl) (pe_lc (own := [("place", 2)]) (wi := (iTup K (tVar 0))) (g := (gName 2)) (tt := tYes) (te := (tOp (rIxT K) (tVar 2) (tC (.int 0)))) rfl sc_is_mill.nd (pi_tup (pv 0)) (blkOk_by (N := N_is_mill) (sc := defScope s_is_mill) (by decide +kernel)) (fun _ _ _ _ _ => (pg_name (i := 2) sc_is_mill.nd rfl (Or.inl rfl))) (fun _ _ _ _ _ => pts_nil) (fun _ _ _ _ _ => (pe_ix ix_tup (pv 2) pe_int (fun _ _ => rfl)))))
      (pss_cons (ps_if (pt_not (pt_val (f_are_unlike.ex.elim fun _ q => q.elim fun _ q => pe_call q.1 (hr.mono (by omega)) (by rfl) q.2.1 q.2.2.1 q.2.2.2 .nil pass0 (pa_cons (pv 1) pa_nil)))) (pss_one (ps_ret pe_bl)) pss_nil)
      (pss_one (ps_ret (pe_callB (cr_all rfl) (by rfl) T.b_all bt_all (pa_cons (pe_lc (own := [("place", 2)]) (wi := (iTup K (tVar 0))) (g := (gName 2)) (tt := tYes) (te := (tCall sp_are_rules [] E0 (tCons (tOp (rIxT K) (tVar 2) (tC (.int 2))) (tCons (tLc (iTup K (tOp (rIxT K) (tVar 2) (tC (.int 1)))) (gTup K 2 (gCons (gName 3) (gCons (gName 4) gNil))) tYes (tVar 3) [3, 4]) (tCons (tVar 1) tNil))))) rfl sc_is_mill.nd (pi_tup (pv 0)) (blkOk_by (N := N_is_mill) (sc := defScope s_is_mill) (by decide +kernel)) (fun _ _ _ _ _ => (pg_name (i := 2) sc_is_mill.nd rfl (Or.inl rfl))) (fun _ _ _ _ _ => pts_nil) (fun _ _ _ _ _ => (f_are_rules.ex.elim fun _ q => q.elim fun _ q => pe_call q.1 (hr.mono (by omega)) (by rfl) q.2.1 q.2.2.1 q.2.2.2 .nil pass0 (pa_cons (pe_ix ix_tup (pv 2) pe_int (fun _ _ => rfl)) (pa_cons (pe_lc (own := [("name", 3), ("number", 4)]) (wi := (iTup K (tOp (rIxT K) (tVar 2) (tC (.int 1))))) (g := (gTup K 2 (gCons (gName 3) (gCons (gName 4) gNil)))) (tt := tYes) (te := (tVar 3)) rfl sc_is_mill.nd (pi_tup (pe_ix ix_tup (pv 2) pe_int (fun _ _ => rfl))) (blkOk_by (N := N_is_mill) (by kernel_rfl)) (fun _ _ _ _ _ => (pg_tup rfl (pgs_cons (pg_name (i := 3) sc_is_mill.nd rfl (Or.inl rfl)) (pgs_cons (pg_name (i := 4) sc_is_mill.nd rfl (Or.inl rfl)) pgs_nil)))) (fun _ _ _ _ _ => pts_nil) (fun _ _ _ _ _ => (pv 3))) (pa_cons (pv 1) pa_nil)))))) pa_nil)))))))), ?_⟩
  refine g_start (σ' := [some _, none, none, none, none]) rfl ?_
  obtain ⟨c, us, rfl, hc, hal⟩ := hw
  have hlu := hal.len
  have h1 := hk.one
  have h4 := hk.most
  refine g_seq (g_ifs (g_or (g_not (g_tB (g_cb (g_cons (g_v0 (g_cons (g_c (g_nil (g_isTup (by walk_at "hx") (g_k (g_iteF (g_not (g_tst (g_chain (g_c (g_cb (g_cons (g_v0 (g_nil (g_lnT (by walk_at "hx") (g_I0 (g_k (g_ifD1 (by omega) (g_c (g_I0 (g_k (g_ifN0 (by omega) (g_next (g_seq (g_ifs (g_not (g_tB (g_cb (g_cons (g_lcT (g_v0 ?_))))))))))))))))))))))))))))))))))))))
  refine lc_mapT (R := PlAt) (ds := m) (h := fun _ => .bl true) hc hal (by omega) (fun r u H1 e h => h.tx (Tx.ex e)) (fun r hm u H1 e1 hR Y N hY => ?_) (fun D H1 _ e1 hD => ?_)
  ·
    refine g_n2 (And.intro rfl (g_yes (g_iteT (g_call (g_cons (g_v2 (g_nil ?_)))))))
    exact ⟨r, u, _, rfl, hR, hk.pl r hm, fun H4 e4 => hY H4 e4⟩
  ·
    refine g_nil ?_
    refine g_allT hD (all_yes _) ?_
    refine g_k (g_iteF (g_next (g_seq (g_asg (g_lcT (g_v0 ?_))))))
    refine lc_mapT (R := PlAt) (ds := m) (h := fun p => .str p.name) (hc.ex e1) (hal.imp fun r u h => h.tx (Tx.ex e1)) (by omega) (fun r u H1 e h => h.tx (Tx.ex e)) (fun r hm u H2 e2 hR Y N hY => ?_) (fun D2 H2 _ e2 hD2 => ?_)
    · obtain ⟨d, x, y, rfl, hd, _, _⟩ := hR
      refine g_n2 (And.intro rfl (g_yes (g_iteT (g_op (g_v2 (g_c (g_ixT (by walk_at "hx") (show atI _ _ = some _ from rfl) ?_)))))))
      exact hY _ (Evl.Ex.refl _)
    · have e12 := e1.trans e2
      have hD2' : At H2 D2 (.lst (sV (namesOf m))) := by
        unfold namesOf
        rw [sV_map]
        exact hD2
      refine g_n1 (g_seq (g_ifs (g_not (g_tB (g_call (g_cons (g_v1 (g_nil ?_))))))))
      refine ⟨D2, namesOf m, rfl, hD2', hk.nd, by unfold namesOf; rw [List.length_map]; omega, ?_⟩
      refine g_k (g_iteF (g_next (g_ret (g_cb (g_cons (g_lcT (g_v0 ?_)))))))
      refine lc_mapT (R := PlAt) (ds := m) (h := fun _ => .bl true) (hc.ex e12) (hal.imp fun r u h => h.tx (Tx.ex e12)) (by omega) (fun r u H1 e h => h.tx (Tx.ex e)) (fun r hm u H3 e3 hR Y N hY => ?_) (fun D3 H3 _ e3 hD3 => ?_)
      · obtain ⟨d, x, y, rfl, hd, hx, hy⟩ := hR
        obtain ⟨dx, ux, rfl, hdx, hax⟩ := hx
        have hp := hk.pl r hm
        have hlx := hax.len
        have hfx := hp.few
        refine g_n2 (And.intro rfl (g_yes (g_iteT (g_call (g_cons (g_op (g_v2 (g_c (g_ixT (by walk_at "hx") (show atI _ _ = some _ from rfl) (g_cons (g_lcT (g_op (g_v2 (g_c (g_ixT (by walk_at "hx") (show atI _ _ = some _ from rfl) ?_)))))))))))))))
        refine lc_mapF (R := PrAt) (ds := r.boxes) (h := fun p => .str p.1) hdx hax (by omega) (fun r u H1 e h => h.tx (Tx.ex e)) (fun q hm4 u H4 e4 hR4 Y4 N4 hY4 => ?_) (fun D4 H4 _ e4 hD4 => ?_)
        · obtain ⟨d4, rfl, hd4⟩ := hR4
          refine g_gtup (by walk_at "hx") rfl (g_gcons (g_n3 (g_gcons (g_n4 (g_gnil (And.intro rfl (g_yes (g_iteT (g_v3 ?_)))))))))
          exact hY4 _ (Evl.Ex.refl _)
        ·
          refine g_cons (g_v1 (g_nil ?_))
          refine ⟨r.rules, y, D4, D2, r.boxes.map (·.1), namesOf m, rfl, TpAt.tx (fun _ _ => RuAt.tx (Tx.ex e4)) (Tx.ex e4) hy, fun q mq => ⟨kinds_nms (hp.rules q mq).1, (hp.rules q mq).2.1, (hp.rules q mq).2.2.1, (hp.rules q mq).2.2.2.1⟩, hp.rnd, hp.rfew, hp.bnames, by rw [sV_map]; exact hD4, by walk_at "hx", fun H5 e5 => hY H5 (by walk_at "ex")⟩
      ·
        refine g_nil ?_
        refine g_allT hD3 (all_yes _) ?_
        exact hq _ (e12.trans e3)
end
end PM
/-! part PQ -/
namespace PM
open PySem PySem.Spec PyProof.Rows L2 PMH
open Evl (Ex)
/-! ### sorted(xs), xs a list of letters -/
def encL (l : Lt) : PyData := .tuple [.int l.time, .int l.sender, .int l.number, .int l.place, .str l.kind, .int l.load]
def sortL (ls : List Lt) : List Lt := ls.mergeSort (PySem.W.dataLe false encL)
theorem sortL_perm (ls : List Lt) : (sortL ls).Perm ls := List.mergeSort_perm _ _
theorem sortL_length (ls : List Lt) : (sortL ls).length = ls.length := (sortL_perm ls).length_eq
theorem sortL_filter (p : Lt → Bool) (ls : List Lt) : (sortL ls).filter p = sortL (ls.filter p) := by
  have T : PySem.W.TotalLe (PySem.W.dataLe false encL) := PySem.W.sortLe_total _ _ _
  refine PySem.W.sort_unique T ((PySem.W.sort_pairwise T ls).filter _) fun c => ?_
  rw [List.filter_filter, List.filter_filter]
  have e := PySem.W.sort_stable T ls c
  have e2 := congrArg (List.filter p) e
  rw [List.filter_filter, List.filter_filter] at e2
  have sw : ∀ xs : List Lt, xs.filter (fun a => PySem.W.sameRank (PySem.W.dataLe false encL) c a && p a) = xs.filter fun a => p a && PySem.W.sameRank (PySem.W.dataLe false encL) c a := fun xs => List.filter_congr fun x _ => Bool.and_comm _ _
  rw [sw, sw]
  exact e2
def rSortLt (K : PySem.W.Frag) : List V → Hp → VK → Prop := fun vs H Q => ∃ (a : Addr) (ls : List Lt) (us : List V), vs = [.ref a] ∧ SqL K H a us ∧ Al LtAt ls us H ∧ ls.length ≤ 10000 ∧
  ∀ us' p, Al LtAt (sortL ls) us' H → H p = none → Q (.ref p) (upd H p (.lst us'))
def LtR (H : Hp) (v : Value) (l : Lt) : Prop := ∃ u, RelV u v ∧ LtAt l u H
theorem each_of {H : Hp} : ∀ {ls : List Lt} {us : List V} {vs : List Value}, Al LtAt ls us H → Vals us vs → PySem.W.EachIs (LtR H) vs ls
  | [], _, _, h, r => by
    rw [show _ = [] from h] at r
    cases r
    exact .nil
  | l :: ls, _, _, ⟨u, us, e, h, k⟩, r => by
    subst e
    cases r with
    | cons r t => exact .cons ⟨u, r, h⟩ (each_of k t)
theorem of_each {H : Hp} : ∀ {ls : List Lt} {vs : List Value}, PySem.W.EachIs (LtR H) vs ls → ∃ us, Vals us vs ∧ Al LtAt ls us H
  | _, _, .nil => ⟨[], .nil, rfl⟩
  | _, _, .cons ⟨u, r, h⟩ t => by
    obtain ⟨us, h1, h2⟩ := of_each t
    exact ⟨u :: us, .cons r h1, u, us, rfl, h, h2⟩
section
variable {X : Cx}
theorem lt_reads {pins : List (Addr × Obj)} {σ : L2.St} {H : Hp} {s : Shared} (I : Inv X pins σ H s) {v : Value} {l : Lt} (h : LtR H v l) : ∃ as, PySem.Reads s.heap v (encL l) as := by
  obtain ⟨u, r, a, rfl, ha⟩ := h
  cases r
  obtain ⟨_, its, rv, o, h1, h2, n, h3⟩ := (show ObjOk X.prog X.w H s.heap a (.tup _) from I.hok a _ ha)
  cases rv with | cons r1 rv =>
  cases rv with | cons r2 rv =>
  cases rv with | cons r3 rv =>
  cases rv with | cons r4 rv =>
  cases rv with | cons r5 rv =>
  cases rv with | cons r6 rv =>
  cases rv
  obtain ⟨t1, rfl⟩ := r1
  obtain ⟨t2, rfl⟩ := r2
  obtain ⟨t3, rfl⟩ := r3
  obtain ⟨t4, rfl⟩ := r4
  obtain ⟨t5, rfl⟩ := r5
  obtain ⟨t6, rfl⟩ := r6
  exact ⟨_, .tuple h1 h2 h3 (.cons (.int _ _) (.cons (.int _ _) (.cons (.int _ _) (.cons (.int _ _) (.cons (.str _ _) (.cons (.int _ _) .nil))))))⟩
theorem cr_sortLt (hu : X.A.units + 64 < cLine) : CallR X (.builtin "sorted") (rSortLt X.K) := by
  intro pins s σ H vs us Q I r h
  obtain ⟨a, ls, xs, rfl, hs, hal, hn, q⟩ := h
  obtain ⟨its, rv, hl, hz⟩ := I.list hs
  obtain ⟨u, rfl, ru⟩ := vals1 r
  obtain rfl : u = Value.ref a := ru
  have e := each_of hal rv
  refine PySem.W.sorted_data (R := LtR H) (enc := encL) hl.isList e (e.mono fun v l h => lt_reads I h) (PySem.W.AllAlike.of fun b b' => by simp [encL, PySem.W.alike, PySem.W.alikeAll]) (PySem.W.Sortable.tuples fun b => ⟨_, _, rfl⟩) (Evl.sz_of (by omega)) (fun b _ => by
    have : (encL b).depth ≤ 1 := by simp [encL, PyData.depth, PyData.depthAll]
    omega) fun out ho eo => ?_
  obtain ⟨us', h1, h2⟩ := of_each eo
  obtain ⟨n, hn'⟩ := sortedAll_at s.heap its out.toArray
  refine ⟨.ref (s.heap.objs.size + 1), upd H (s.heap.objs.size + 1) (.lst us'), I.laid (t' := s.toks) (fun b o e => sortedAll_old e) (Nat.le_succ _) ⟨?_, out, n, h1, hn'⟩, rfl, q us' _ h2 (I.hok.fresh (Nat.le_succ _))⟩
  rw [h1.length, ho]
  exact Evl.sz_of (by omega)
end
theorem g_sortLt {K : PySem.W.Frag} {H : Hp} {Q : VK} {a : Addr} {ls : List Lt} {us : List V} (h : At H a (.lst us)) (al : Al LtAt ls us H) (n : ls.length ≤ 10000) (q : ∀ p H1 us', H p = none → Ex H H1 → At H1 p (.lst us') → Al LtAt (sortL ls) us' H1 → Q (.ref p) H1) : rSortLt K [.ref a] H Q :=
  ⟨a, ls, us, rfl, h.sqL, al, n, fun us' p h1 np => q p _ us' np (ex_new np) at_new (h1.imp fun _ _ z => z.tx (Tx.ex (ex_new np)))⟩
end PM
/-! part PT -/
namespace PM
open PySem PySem.Spec PyProof.Rows L2 PMH
open Evl (Ex)
/-! ### a tuple times one -/
theorem tup_once (l : Addr) (items : Array Value) (n : Nat) (dd : Option Addr) (sl : Array (Option Value)) (u : Tok) :
    Meets (Builtin.«tuple.__mul__» ⟨[.ref l, .int 1 u], []⟩) (fun _ R s => s.heap.get? l = some { cls := .type "tuple", dict := dd, data := .seq items n, slots := sl } ∧ R (.ok (.ret (Value.ref l))) s) :=
  .of_wp fun prog w A R s hh => by
    obtain ⟨hp, g, d, tk, os⟩ := s
    obtain ⟨hl, h⟩ := hh
    have f1 := AutoSeq1.idx_int
    have c1 : (items.isEmpty || (1 : Int) == 1) = true := by simp
    wp_walk using wpAny_loadPart' hl
    exact ⟨_, rfl, h⟩
def rRepA (K : PySem.W.Frag) : R2 := fun x y H Q => ∃ l k xs, x = .ref l ∧ y = .int k ∧ SqT K H l xs ∧ xs ≠ [] ∧ 1 ≤ k ∧ k ≤ 1000 ∧ xs.length ≤ 1000 ∧ (k = 1 → Q (.ref l) H) ∧ ∀ p, H p = none → Q (.ref p) (upd H p (.tup (List.replicate k.toNat xs).flatten))
/-- times one: the tuple itself; a tuple's * is asked through int.__rmul__ first -/
theorem times_one {X : Cx} {l : Addr} {xs : List V} {pins : List (Addr × Obj)} {σ : L2.St} {H : Hp} {s : Shared} {u : Tok} {Q : VK} (I : Inv X pins σ H s) (is : SqT X.K H l xs) (q : Q (.ref l) H) :
    wpAny (model X.prog X.w) X.A (binaryOp .Mult (.ref l) (.int 1 u)) (EP X pins σ Q) X.xe s := by
  obtain ⟨its, -, ⟨o, there, cls, n, dat⟩, -⟩ := I.tuple is
  have form : s.heap.get? l = some { cls := .type "tuple", dict := o.dict, data := .seq its.toArray n, slots := o.slots } := by
    rw [there, ← cls, ← dat]
  have isT : s.TypeIs (.ref l) "tuple" := ⟨o, there, cls⟩
  refine wpAny_binaryOp_repeat_ref (by decide) isT (fun _ => typeIs_int _ 1 u) noFill_tuple_mul F.fills_int_mul F.slot_int_rmul repeat_tuple F.slot_int_index.lookup ?_
  refine call_meets F.slot_int_rmul (typeIs_int s 1 u) F.entry_int_rmul (F.args_int_rmul_2 _ _) (int_rmul_tuple 1 u l its.toArray n o.dict o.slots) ⟨form, rfl, isT, ?_⟩
  exact call_meets F.slot_tuple_mul isT F.entry_tuple_mul (F.args_tuple_mul_2 _ _) (tup_once l its.toArray n o.dict o.slots u) ⟨form, .ref l, H, I, rfl, q⟩
theorem oq_repA {X : Cx} : OpR X (binaryOp .Mult) (rRepA X.K) := fun pins s σ H x y v u Q I rx ry ⟨l, k, xs, is1, is2, hT, some_, low, high, few, one, more⟩ => by
  by_cases e : k = 1
  · subst is1 is2 e
    obtain rfl : v = .ref l := rx
    obtain ⟨t, rfl⟩ : ∃ t, u = .int 1 t := ry
    exact times_one I hT (one rfl)
  · exact op_repT pins s σ H x y v u Q I rx ry ⟨l, k, xs, is1, is2, hT, some_, by omega, high, few, more⟩
theorem flat_rep (v : V) : ∀ k : Nat, (List.replicate k [v]).flatten = List.replicate k v
  | 0 => rfl
  | k + 1 => by rw [List.replicate_succ, List.flatten_cons, flat_rep v k]; rfl
theorem g_repA {K : PySem.W.Frag} {H : Hp} {Q : VK} {l : Addr} {v : V} {k : Nat} (h : At H l (.tup [v])) (h1 : 1 ≤ k) (h2 : k ≤ 1000) (q : ∀ p H1, Ex H H1 → At H1 p (.tup (List.replicate k v)) → Q (.ref p) H1) : rRepA K (.ref l) (.int (k : Int)) H Q := by
  refine ⟨l, k, [v], rfl, rfl, h.sqT, by simp, by omega, by omega, by simp, fun e => ?_, fun p hp => ?_⟩
  · have e2 : k = 1 := by omega
    subst e2
    exact q l H (Evl.Ex.refl _) h
  · rw [Int.toNat_natCast, flat_rep]
    exact q p _ (ex_new hp) at_new
theorem g_repA' {K : PySem.W.Frag} {H : Hp} {Q : VK} {l : Addr} {v : V} {k : Nat} {j : Int} (ej : j = (k : Int)) (h : At H l (.tup [v])) (h1 : 1 ≤ k) (h2 : k ≤ 100) (q : ∀ p H1, Ex H H1 → At H1 p (.tup (List.replicate k v)) → Q (.ref p) H1) : rRepA K (.ref l) (.int j) H Q := by
  subst ej
  exact g_repA h h1 (by omega) q
end PM
/-! part PV -/
namespace PM
open PySem L2 PMH
open Evl (Ex)
/-! ### the state, told plainly -/
structure MS where
  boxes : List Bx
  drawn : List Int
  sent : List Int
  wait : List Lt
def put (b : Bx) (s : Nm) (v : Int) : Bx := b.map fun p => if p.1 = s then (p.1, v) else p
def idx (ns : List Nm) (g : Nm) : Nat := ns.findIdx (· == g)
structure WS where
  bx : Bx
  c : Int
  n : Int
  out : List Lt
def drawOf (c : Int) (p : Nat) (m : Int) : Int := (c * c + 3 * c * p + p + c / 2) % m
mutual
def rowDo (ns : List Nm) (p : Nat) (time load : Int) : Row → WS → WS
  | .set b t, w => { w with bx := put w.bx b (t.val w.bx load time) }
  | .draw b m, w => { w with bx := put w.bx b (drawOf w.c p m), c := w.c + 1 }
  | .send g k s t, w => { w with n := w.n + 1, out := w.out ++ [⟨time + s, p, w.n, idx ns g, k, t.val w.bx load time⟩] }
  | .ite c x y, w => if c.val w.bx load time = 0 then rowsDo ns p time load y w else rowsDo ns p time load x w
def rowsDo (ns : List Nm) (p : Nat) (time load : Int) : List Row → WS → WS
  | [], w => w
  | r :: rs, w => rowsDo ns p time load rs (rowDo ns p time load r w)
end
def ltOf (ns : List Nm) (n : Nat) (g : Gv) : Lt := ⟨g.time, -1, n, idx ns g.place, g.kind, g.load⟩
/-- boxes as a tuple of numbers -/
def nbV (b : Bx) : List V := b.map fun p => .int p.2
def NbAt (b : Bx) (v : V) (H : Hp) : Prop := ∃ a, v = .ref a ∧ At H a (.tup (nbV b))
theorem NbAt.tx {H H' : Hp} (e : Tx H H') {b : Bx} {v : V} : NbAt b v H → NbAt b v H' := fun ⟨a, h1, h2⟩ => ⟨a, h1, h2.tx e⟩
def isV (ns : List Int) : List V := ns.map .int
def NsAt (ns : List Int) (v : V) (H : Hp) : Prop := ∃ a, v = .ref a ∧ At H a (.tup (isV ns))
theorem NsAt.tx {H H' : Hp} (e : Tx H H') {b : List Int} {v : V} : NsAt b v H → NsAt b v H' := fun ⟨a, h1, h2⟩ => ⟨a, h1, h2.tx e⟩
def StAt (s : MS) (v : V) (H : Hp) : Prop := ∃ a b d p w, v = .ref a ∧ At H a (.tup [b, d, p, w]) ∧ TpAt NbAt s.boxes b H ∧ NsAt s.drawn d H ∧ NsAt s.sent p H ∧ TpAt LtAt s.wait w H
theorem StAt.tx {H H' : Hp} (e : Tx H H') {s : MS} {v : V} : StAt s v H → StAt s v H' := fun ⟨a, b, d, p, w, h1, h2, h3, h4, h5, h6⟩ =>
  ⟨a, b, d, p, w, h1, h2.tx e, h3.tx (fun _ _ => NbAt.tx e) e, h4.tx e, h5.tx e, h6.tx (fun _ _ => LtAt.tx e) e⟩
def startOf (m : List Pl) (ls : List Lt) : MS := ⟨m.map (·.boxes), List.replicate m.length 0, List.replicate m.length 0, sortL ls⟩
theorem idx_at {ns : List Nm} {i : Nat} {g : Nm} (h : ns[i]? = some g) (n : ns.Nodup) : idx ns g = i := by
  unfold idx
  obtain ⟨hi, e⟩ := List.getElem?_eq_some_iff.mp h
  rw [List.findIdx_eq hi]
  refine ⟨by rw [e]; exact beq_self_eq_true g, fun j hj => ?_⟩
  refine beq_eq_false_iff_ne.mpr fun q => ?_
  exact absurd (q.trans e.symm) (List.pairwise_iff_getElem.mp n j i (Nat.lt_trans hj hi) hi hj)
end PM
/-! part PU -/
namespace PM
open PySem PySem.Spec PyProof.Rows L2 PMH
/-! ### dict(zip(xs, ys)), xs and ys of any kind that draws: one turn of a zip whose pair is out as a rule -/
section
variable {P : Program} {w : World} {A : Around} {E : Value → Shared → Prop} {s : Shared} {z TI TO i1 i2 : Addr}
/-- what is raised tells that one of the two is at its end -/
def Spent (Q : Option Value → Shared → Prop) : Value → Shared → Prop := fun e s' => ∃ a o, e = .ref a ∧ s'.heap.get? a = some o ∧ o.cls = .type "StopIteration" ∧ Q none s'
theorem out_turn {T : Addr} {f : Bool} {oT : Obj} {Q : Option Value → Shared → Prop} (atZ : IsZipHeld s.heap z TI TO T f) (out : s.heap.get? T = some oT) (both : IsTupOf2 s.heap TI (.ref i1) (.ref i2))
    (draw : ∀ h1, IsZipHeld h1 z TI TO T true → Heap.SameBut z s.heap h1 → wpAny (model P w) A.in1 (Builtin.SmallTypes.nextOf (.ref i1)) (fun x1 s1 =>
      wpAny (model P w) A.in1 (Builtin.SmallTypes.nextOf (.ref i2)) (fun x2 s2 => Q (some (.ref s2.heap.objs.size)) { s2 with heap := s2.heap.push { cls := .type "tuple", data := .seq #[x1, x2] } }) (Spent Q) s1) (Spent Q) { s with heap := h1 }) :
    wpAny (model P w) A (pyNext (.ref z)) Q E s := by
  have isZ : s.TypeIs (.ref z) "zip" := ⟨_, atZ, rfl⟩
  have spent : ∀ e s', Spent Q e s' → wpAny (model P w) A (do if ← isInstance e (.type "StopIteration") then return none else throw e) Q E s' := fun e s' ⟨a, o, is, there, stop, q⟩ => by
    subst is
    exact wpAny_bind (wpAny_isInstance (b := true) ⟨o, there, stop⟩ isSubtype_stop (wpAny_pure q))
  unfold pyNext
  refine wpAny_bind (wpAny_attempt (wpAny_callSpecial?_slot (name := Str.ofString "__next__") isZ F.slot_zip_next (wpAny_call_entry F.slot_zip_next isZ F.entry_zip_next ?_ (F.args_zip_next_1 _))))
  unfold Builtin.«zip.__next__»
  wp_walk using wpAny_field atZ rfl (x := .bool false) rfl, wpAny_field atZ rfl (x := .ref TI) rfl, wpAny_seqItems both rfl, wpAny_tupleHeld_zip atZ out
  intro h1 held same
  have two : ∀ {β : Type} (b : β) (g : Value → β → Sem (ForInStep β)), forIn (#[.ref i1, .ref i2] : Array Value) b g = (do match ← g (.ref i1) b with | .done b' => pure b' | .yield b' => (do match ← g (.ref i2) b' with | .done b' => pure b' | .yield b' => pure b')) := fun b g => by
    rw [← Array.forIn_toList]
    simp only [List.forIn_cons, List.forIn_nil] <;> rfl
  simp only [Bool.false_eq_true, if_false, two]
  refine wpAny_bind (wpAny_bind (wpAny_bind (wpAny_holding (wpAny_bind (m := Builtin.SmallTypes.nextOf (.ref i1)) (f := fun x => pure (some x)) (wpAny_mono (draw h1 held same) (fun x1 s1 more => wpAny_pure (wpAny_pure ?_)) spent)))))
  refine wpAny_bind (wpAny_bind (wpAny_holding (wpAny_bind (m := Builtin.SmallTypes.nextOf (.ref i2)) (f := fun x => pure (some x)) (wpAny_mono more (fun x2 s2 q => wpAny_pure (wpAny_pure (wpAny_pure ?_))) spent))))
  exact wpAny_bind (m := newTuple [x1, x2]) (wpAny_newTuple (wpAny_pure ⟨_, rfl, wpAny_pure q⟩))
end
/-- the zip before its first pair, or with a pair T out that is none of those in use -/
def Turning (h : Heap) (z TI TO i1 i2 d : Addr) : Prop := (IsZip h z TI TO .none ∧ ∃ a b, IsTupOf2 h TO a b) ∨ ∃ T f o, IsZipHeld h z TI TO T f ∧ h.get? T = some o ∧ T ∉ [z, i1, i2, d]
theorem Turning.over {h h' : Heap} {z TI TO i1 i2 d : Addr} (t : Turning h z TI TO i1 i2 d) (offZ : z ≠ d) (offO : TO ≠ d) (rest : ∀ b o, b ≠ d → h.get? b = some o → h'.get? b = some o) : Turning h' z TI TO i1 i2 d := by
  rcases t with ⟨a, x, y, b⟩ | ⟨T, f, o, a, b, c⟩
  · exact .inl ⟨rest _ _ offZ a, x, y, rest _ _ offO b⟩
  · exact .inr ⟨T, f, o, rest _ _ offZ a, rest _ _ (fun e => c (by rw [e]; simp)) b, c⟩
section
variable {P : Program} {w : World} {A : Around} {E : Value → Shared → Prop} {s : Shared} {z TI TO i1 i2 d : Addr} {fp1 fp2 : List Addr} {n i : Nat} {P1 P2 : Nat → Value → Prop} {St1 St2 : Nat → Heap → Prop} {Q : Option Value → Shared → Prop}
theorem zip_goes (S : ZipSep2 z TI TO i1 i2 fp1 fp2) (D1 : Draws P w A.in1 i1 fp1 n P1 St1) (D2 : Draws P w A.in1 i2 fp2 n P2 St2) (lt : i < n) (both : IsTupOf2 s.heap TI (.ref i1) (.ref i2)) (st1 : St1 i s.heap) (st2 : St2 i s.heap)
    (t : Turning s.heap z TI TO i1 i2 d) (hd : d < s.heap.objs.size)
    (go : ∀ x1 x2 h' tk, P1 i x1 → P2 i x2 → Turning h' z TI TO i1 i2 d → IsTupOf2 h' TI (.ref i1) (.ref i2) → St1 (i + 1) h' → St2 (i + 1) h' → IsTupOf2 h' s.heap.objs.size x1 x2 →
      (∀ c o, c ∉ [z, TO, i1, i2] → s.heap.get? c = some o → h'.get? c = some o) → Q (some (.ref s.heap.objs.size)) { s with heap := h', toks := tk }) : wpAny (model P w) A (pyNext (.ref z)) Q E s := by
  have ⟨o1, there1⟩ := D1.live _ _ st1
  have ⟨o2, there2⟩ := D2.live _ _ st2
  rcases t with ⟨fresh, a, b, pair⟩ | ⟨T, f, o, held, out, apart⟩
  · refine wpAny_pyNext_zipD2_item S D1 D2 fresh both pair st1 st2 lt lt fun x1 x2 h' tk p1 p2 z' _ u1 u2 new _ rest => ?_
    have new_ne : s.heap.objs.size ∉ [z, i1, i2, d] := fun m => by
      have below : ∀ c ∈ [z, i1, i2, d], c < s.heap.objs.size := by simpa using ⟨Heap.lt_size fresh, Heap.lt_size there1, Heap.lt_size there2, hd⟩
      exact Nat.lt_irrefl _ (below _ m)
    exact go x1 x2 h' tk p1 p2 (.inr ⟨_, false, _, z', new, new_ne⟩) (rest _ _ S.TIz S.TITO S.TIi1 S.TIi2 both) u1 u2 new fun c o off e => by
      simp only [List.mem_cons, List.not_mem_nil, or_false, not_or] at off
      exact rest c o off.1 off.2.1 off.2.2.1 off.2.2.2 e
  · refine out_turn held out both fun h1 held1 e1 => D1.item i _ _ _ lt (D1.over st1 e1 S.zf1) fun x1 g1 tk1 p1 u1 e2 => D2.item i _ _ _ lt (D2.over (D2.over st2 e1 S.zf2) e2 S.sep1_2) fun x2 g2 tk2 p2 u2 e3 => ?_
    have size : g2.objs.size = s.heap.objs.size := e3.1.trans (e2.1.trans e1.1)
    have rest : ∀ c o, c ≠ z → c ≠ i1 → c ≠ i2 → s.heap.get? c = some o → (g2.push { cls := .type "tuple", data := .seq #[x1, x2] }).get? c = some o := fun c o a b d e => Heap.get?_push_of_some _ (e3.extBut _ _ d (e2.extBut _ _ b (e1.extBut _ _ a e)))
    have pushed : ∀ c o, g2.get? c = some o → (g2.push { cls := .type "tuple", data := .seq #[x1, x2] }).get? c = some o := fun c o e => Heap.get?_push_of_some _ e
    have offs := apart
    simp only [List.mem_cons, List.not_mem_nil, or_false, not_or] at offs
    show Q (some (.ref g2.objs.size)) _
    rw [size]
    exact go x1 x2 _ tk2 p1 p2 (.inr ⟨T, true, o, pushed _ _ (e3.extBut _ _ S.zi2 (e2.extBut _ _ S.zi1 held1)), rest _ _ offs.1 offs.2.1 offs.2.2.1 out, apart⟩) (rest _ _ S.TIz S.TIi1 S.TIi2 both)
      (D1.frame _ _ _ (D1.over u1 e3 S.sep2_1) fun b _ => pushed b) (D2.frame _ _ _ u2 fun b _ => pushed b) (by rw [← size]; exact Heap.get?_push_size _ rfl) fun c o off e => by
      simp only [List.mem_cons, List.not_mem_nil, or_false, not_or] at off
      exact rest c o off.1 off.2.2.1 off.2.2.2 e
theorem zip_ends (S : ZipSep2 z TI TO i1 i2 fp1 fp2) (D1 : Draws P w A.in1 i1 fp1 n P1 St1) (D2 : Draws P w A.in1 i2 fp2 n P2 St2) (both : IsTupOf2 s.heap TI (.ref i1) (.ref i2)) (st1 : St1 n s.heap) (st2 : St2 n s.heap) (t : Turning s.heap z TI TO i1 i2 d)
    (go : ∀ h' tk, (∀ c o, c ∉ [z, TO, i1, i2] → s.heap.get? c = some o → h'.get? c = some o) → Q none { s with heap := h', toks := tk }) : wpAny (model P w) A (pyNext (.ref z)) Q E s := by
  have four : ∀ {c : Addr}, c ∉ [z, TO, i1, i2] → c ≠ z ∧ c ≠ TO ∧ c ≠ i1 ∧ c ≠ i2 := fun h => by simpa using h
  rcases t with ⟨fresh, a, b, pair⟩ | ⟨T, f, o, held, out, _⟩
  · exact wpAny_pyNext_zipD2_end S D1 D2 fresh both pair st1 st2 (Nat.le_refl _) (Nat.le_refl _) (.inl rfl) fun h' tk rest => go h' tk fun c o off => rest c o (four off).1 (four off).2.1 (four off).2.2.1 (four off).2.2.2
  · refine out_turn held out both fun h1 _ e1 => D1.done _ _ _ (D1.over st1 e1 S.zf1) fun h2 e ext stop => ?_
    obtain ⟨oe, there, cls⟩ := stop
    exact ⟨e, oe, rfl, there, cls, go h2 s.toks fun c o off z => ext c o (four off).2.2.1 (e1.extBut _ _ (four off).1 z)⟩
/-- zip(xs, ys) as dict()'s argument, of any two that draw n times -/
theorem zip_arg (S : ZipSep2 z TI TO i1 i2 fp1 fp2) (D1 : ∀ A : Around, A.handled = none → Draws P w A i1 fp1 n P1 St1) (D2 : ∀ A : Around, A.handled = none → Draws P w A i2 fp2 n P2 St2)
    (all1 : ∀ h, St1 0 h → ∀ b ∈ fp1, ∃ o, h.get? b = some o) (all2 : ∀ h, St2 0 h → ∀ b ∈ fp2, ∃ o, h.get? b = some o) :
    PairArg P w "zip" z ([z, TI, TO] ++ (fp1 ++ fp2)) [z, TO, i1, i2] n (fun i k v => P1 i k ∧ P2 i v) (fun h => (IsZip h z TI TO .none ∧ ∃ a b, IsTupOf2 h TO a b) ∧ IsTupOf2 h TI (.ref i1) (.ref i2) ∧ St1 0 h ∧ St2 0 h) where
  type _ ok := ⟨_, ok.1.1, rfl⟩
  notDict := by decide
  keep h h' ok rest := ⟨⟨rest _ _ ok.1.1, let ⟨a, b, e⟩ := ok.1.2; ⟨a, b, rest _ _ e⟩⟩, rest _ _ ok.2.1, (D1 {} rfl).frame _ _ _ ok.2.2.1 fun b _ => rest b, (D2 {} rfl).frame _ _ _ ok.2.2.2 fun b _ => rest b⟩
  there h ok b m := by
    rcases List.mem_append.mp m with m | m
    · have three : b = z ∨ b = TI ∨ b = TO := by simpa using m
      rcases three with e | e | e
      · exact ⟨_, e ▸ ok.1.1⟩
      · exact ⟨_, e ▸ ok.2.1⟩
      · obtain ⟨x, y, p⟩ := ok.1.2
        exact ⟨_, e ▸ p⟩
    · exact (List.mem_append.mp m).elim (all1 h ok.2.2.1 b) (all2 h ok.2.2.2 b)
  sub b m := by
    have four : b = z ∨ b = TO ∨ b = i1 ∨ b = i2 := by simpa using m
    rcases four with e | e | e | e
    · simp [e]
    · simp [e]
    · exact List.mem_append_right _ (List.mem_append_left _ (e ▸ S.mem1))
    · exact List.mem_append_right _ (List.mem_append_right _ (e ▸ S.mem2))
  noKeys _ _ _ _ calm ok go := getAttrOr_miss_zip ok.1.1 rfl rfl rfl zip_no_keys (by decide +kernel) calm go
  iter A s d Q E calm ok hd off go := by
    have E1 := D1 A.in1 calm
    have E2 := D2 A.in1 calm
    have offs : d ∉ [z, TI, TO] ∧ d ∉ fp1 ∧ d ∉ fp2 := by simpa only [List.mem_append, not_or] using off
    have offs3 : d ≠ z ∧ d ≠ TI ∧ d ≠ TO := by simpa using offs.1
    have ne : ∀ {c : Addr} {l : List Addr}, c ∈ l → d ∉ l → c ≠ d := fun m no e => no (e ▸ m)
    refine wpAny_pyIter_zip ok.1.1 (go z [z, TO, i1, i2] (fun i h => Turning h z TI TO i1 i2 d ∧ IsTupOf2 h TI (.ref i1) (.ref i2) ∧ St1 i h ∧ St2 i h) s.heap s.toks ?_ ⟨.inl ok.1, ok.2⟩ (fun _ _ e => e) fun b m => .inl m)
    constructor
    · intro m
      have four : d = z ∨ d = TO ∨ d = i1 ∨ d = i2 := by simpa using m
      rcases four with e | e | e | e
      · exact offs3.1 e
      · exact offs3.2.2 e
      · exact offs.2.1 (e ▸ S.mem1)
      · exact offs.2.2 (e ▸ S.mem2)
    · intro i h h' st rest
      exact ⟨st.1.over (Ne.symm offs3.1) (Ne.symm offs3.2.2) rest, rest _ _ (Ne.symm offs3.2.1) st.2.1, E1.frame _ _ _ st.2.2.1 fun b m o => rest b o (ne m offs.2.1), E2.frame _ _ _ st.2.2.2 fun b m o => rest b o (ne m offs.2.2)⟩
    · intro i s' Q' E' lt st hd' go'
      exact zip_goes S E1 E2 lt st.2.1 st.2.2.1 st.2.2.2 st.1 hd' fun x1 x2 h' tk p1 p2 t b u1 u2 new rest => go' _ x1 x2 h' tk ⟨p1, p2⟩ (.inl ⟨_, new, rfl, _, rfl⟩) ⟨t, b, u1, u2⟩ rest
    · intro s' Q' E' st go'
      exact zip_ends S E1 E2 st.2.1 st.2.2.1 st.2.2.2 st.1 go'
end
end PM
/-! part PX -/
namespace PM
open PySem PySem.Spec PyProof.Rows L2 PMH
open Evl (Ex)
/-! ### tuple(d.values()) -/
section
variable {P : Program} {w : World} {A : Around} {E : Value → Shared → Prop} {s : Shared} {T : String} {r d : Addr} {n : Nat} {Is : Nat → Value → Prop} {OK : Heap → Prop}
theorem tuple_from {Q : Value → Shared → Prop} (src : PySem.W.KdlSrc P w T r d n Is OK) (other : Value.type T ≠ Value.type "tuple") (calm : A.handled = none) (ok : OK s.heap) (few : n ≤ sizeLine)
    (go : ∀ (h' : Heap) (tk : Nat) (got : Array Value), (∀ b o, s.heap.get? b = some o → h'.get? b = some o) → ItemsOf Is got n → Q (.ref h'.objs.size) { s with heap := h'.push { cls := .type "tuple", data := .seq got }, toks := tk }) :
    wpAny (model P w) A (call (.type "tuple") [.ref r]) Q E s := by
  have isT := src.type s ok
  have notTuple := src.notTuple
  have self := sub_tuple_self
  have plainInit := init_tuple_lookup
  have here := madeHere_tuple
  refine made_begun (Mid := fun ob s1 => s1.TypeIs ob "tuple" ∧ Q ob s1) F.called_tuple (F.typeCall_tuple_1 _) (codeAny_call_builtin F.plain_tuple_new F.entry_tuple_new (wpAny_of_eq (F.newCall_tuple_1 _) ?_)) fun ob s1 q => ⟨q.1, ?_⟩
  · wp_walk using wpAny_typeOf isT, PySem.W.kdu_collect (A := A.in1.in1) src calm ok few
    intro h' tk got rest items
    have room : got.size ≤ sizeLine := items.1 ▸ few
    rw [Array.toArray_toList]
    exact wpAny_bind (wpAny_pure (wpAny_bind (wpAny_newObj_type (wpAny_pure ⟨⟨_, Heap.get?_push_size _ rfl, rfl⟩, go h' tk got rest items⟩) room)))
  · exact codeAny_call_builtin F.called_tuple.init.plain F.entry_object_init (F.called_tuple.init.check _ _ _ _ _ _ _ _ q.1 (F.args_object_init_2 ob _) (object_init_meets F.called_tuple.init.lookup F.called_tuple.made (by decide) P w _ _ s1 ⟨q.1, rfl, q.2⟩))
end
theorem vals_snd : ∀ {kvs : List (Key × V)} {vs : List (Key × Value)}, KV kvs vs → Vals (kvs.map (·.2)) (vs.map (·.2))
  | _, _, .nil => .nil
  | _, _, .cons h t => .cons h.2 (vals_snd t)
/-- the values met in turn are the dict's values -/
theorem got_values {vs : List (Key × Value)} {got : Array Value} (g : ItemsOf (fun i v => ∃ k, vs[i]? = some (k, v)) got vs.length) : got = (vs.map (·.2)).toArray := by
  refine Array.ext (by simpa using g.1) fun i lt _ => ?_
  obtain ⟨k, at_⟩ := g.2 i got[i] (Array.getElem?_eq_getElem lt)
  obtain ⟨small, e⟩ := List.getElem?_eq_some_iff.mp at_
  simp [e]
theorem bt_tuple' : bootBuiltins "tuple" = some (.type "tuple") := by decide +kernel
section
variable {X : Cx} {o : Expr} {apos mpos : Pos} {td : TE}
/-- o.values(): a view of the dict, laid behind all that stands -/
theorem values_run (hd : PE X o td) (base : attributeBase o "values" X.env (eval o X.env) = eval o X.env) (line : (apos.endLine == mpos.line) = true) {pins : List (Addr × Obj)} {σ : L2.St} {H : Hp} {s : Shared} {Q : Value → Shared → Prop} {G : List (Key × V) → Hp → Prop} (I : Inv X pins σ H s)
    (h : td σ H fun x H1 => ∃ a kvs, x = V.ref a ∧ H1 a = some (.dK kvs) ∧ G kvs H1)
    (next : ∀ s1 a kvs H1 vs ep, Inv X pins σ H1 s1 → kvs.length ≤ sizeLine → G kvs H1 → KV kvs vs → s1.heap.DictAt (mixKind X.prog X.w) a vs ep → Q (.ref s1.heap.objs.size) { s1 with heap := s1.heap.push { cls := .type "dict_values", data := .fields #[.ref a] } }) :
    wpAny (model X.prog X.w) X.A (eval (.Call (.Attribute o "values" apos) [] [] mpos) X.env) Q X.xe s := by
  refine wpAny_Call_method0_late base line (thn (hd.run pins s σ H _ I h) fun v s1 ⟨x, H1, I1, rel, a, kvs, is, at_, g⟩ => ?_)
  subst is
  obtain rfl : v = .ref a := rel
  have ⟨small, noSys, vs, kv, of⟩ := dk_of I1.hok at_
  have ⟨ep, dat⟩ := of.dictAt
  have ⟨ob, es, there, exact_, _⟩ := dat
  have isD : s1.TypeIs (.ref a) "dict" := ⟨ob, there, exact_.1⟩
  exact ⟨"dict", "dict.values", F.plainAttrs_dict, F.slot_dict_values, F.type_dict_values, isD, fun b e => Value.ref.inj e ▸ ⟨ob, there, exact_.2.1⟩,
    Calls.callWith_builtin rfl (PySem.evalArgs_none (call_meetsIn F.slot_dict_values isD F.entry_dict_values (F.args_dict_values_1 _) (meets_dict_values (mixKind X.prog X.w) a noSys) ⟨⟨vs, of⟩, next s1 a kvs H1 vs ep I1 small g kv dat⟩))⟩
/-- tuple(o.values()) -/
def tTupVals (td : TE) : TE := fun σ H Q => td σ H fun x H1 => ∃ a kvs, x = V.ref a ∧ H1 a = some (.dK kvs) ∧ ∀ p, H1 p = none → Q (.ref p) (upd H1 p (.tup (kvs.map (·.2))))
theorem pe_tupVals {p pos : Pos} (hc : X.calm = true) (hg : Gl X "tuple") (hm : X.mg "tuple" = none) (hd : PE X o td) (base : attributeBase o "values" X.env (eval o X.env) = eval o X.env := by rfl) (line : (apos.endLine == mpos.line) = true := by rfl)
    (na : starEach [Expr.Call (.Attribute o "values" apos) [] [] mpos] X.env = (false, eval (Expr.Call (.Attribute o "values" apos) [] [] mpos) X.env) :: starEach [] X.env := by rfl) :
    PE X (.Call (.Name "tuple" p) [.Call (.Attribute o "values" apos) [] [] mpos] [] pos) (tTupVals td) where
  run pins s σ H Q I h := by
    refine Call_ (ld_blt I hg hm bt_tuple' (PyProof.Rows.callWith_type1 (PyProof.Rows.args_cons (values_run hd base line I h fun s1 a kvs H1 vs ep I1 small go kv dat => PyProof.Rows.args_nil ?_) na) na rfl))
    have seen : ∀ b u, s1.heap.get? b = some u → (s1.heap.push { cls := .type "dict_values", data := .fields #[.ref a] }).get? b = some u := fun _ _ e => Heap.get?_push_of_some _ e
    have count : vs.length = kvs.length := (KV.length kv).symm
    refine tuple_from (PySem.W.kdl_values (r := s1.heap.objs.size)) (by decide) (I1.ok.hd hc) ⟨⟨_, Heap.get?_push_size _ rfl, rfl, rfl⟩, dat.keep seen⟩ (count ▸ small) fun h' tk got rest items => ?_
    have I2 : Inv X pins σ H1 { s1 with heap := h', toks := tk } := I1.kept fun b u e => rest b u (seen b u e)
    have isTup : ObjOk X.prog X.w (upd H1 h'.objs.size (.tup (kvs.map (·.2)))) (h'.push { cls := .type "tuple", data := .seq got }) h'.objs.size (.tup (kvs.map (·.2))) :=
      ⟨by rw [List.length_map]; exact small, vs.map (·.2), vals_snd kv, got_values items ▸ IsTup.new _ _⟩
    exact ⟨.ref h'.objs.size, _, I2.laid (t' := tk) (fun b u e => Heap.get?_push_of_some _ e) (Nat.le_refl _) isTup, rfl, go _ (I2.hok.fresh (Nat.le_refl _))⟩
end
end PM
/-! part PY -/
namespace PM
open PySem PySem.Spec PyProof.Rows L2 PMH
open Evl (Ex)
/-! ### dicts of pairs -/
theorem mergeK_new : ∀ (more kvs : List (Key × V)), ((kvs ++ more).map (·.1)).Nodup → mergeK kvs more = kvs ++ more
  | [], kvs, _ => by simp [mergeK]
  | p :: more, kvs, h => by
    have no : ¬ (kvs.any fun kv => decide (kv.1 = p.1)) = true := by
      intro q
      obtain ⟨x, hx, e⟩ := List.any_eq_true.mp q
      have e' : x.1 = p.1 := of_decide_eq_true e
      rw [List.map_append, List.nodup_append] at h
      exact h.2.2 x.1 (List.mem_map.mpr ⟨x, hx, rfl⟩) p.1 (List.mem_map.mpr ⟨p, List.mem_cons_self, rfl⟩) e'
    have e : putK kvs p.1 p.2 = kvs ++ [p] := if_neg no
    show mergeK (putK kvs p.1 p.2) more = _
    rw [e, mergeK_new more (kvs ++ [p]) (by rw [List.append_assoc]; exact h), List.append_assoc]
    rfl
def kvsOf (ks : List Nm) (ys : List V) : List (Key × V) := (ks.zip ys).map fun p => (Sum.inr p.1, p.2)
theorem kvs_keys : ∀ {ks : List Nm} {ys : List V}, ks.length = ys.length → (kvsOf ks ys).map (·.1) = ks.map Sum.inr
  | [], _, _ => rfl
  | k :: ks, [], h => by simp at h
  | k :: ks, y :: ys, h => by
    have := kvs_keys (ks := ks) (ys := ys) (by simpa using h)
    simp only [kvsOf, List.zip_cons_cons, List.map_cons] at this ⊢
    rw [this]
theorem kvs_merge {ks : List Nm} {ys : List V} (h : ks.length = ys.length) (n : ks.Nodup) : mergeK [] (kvsOf ks ys) = kvsOf ks ys := by
  have q := mergeK_new (kvsOf ks ys) [] (by
    rw [List.nil_append, kvs_keys h]
    exact n.map _ (fun a b ne e => ne (Sum.inr.inj e)))
  simpa using q
theorem kvs_bxK (ks : List Nm) (b : Bx) (h : ks = b.map (·.1)) : kvsOf ks (b.map fun p => .int p.2) = bxK b := by
  subst h
  induction b with
  | nil => rfl
  | cons p b ih =>
    simp only [kvsOf, bxK, List.map_cons, List.zip_cons_cons] at ih ⊢
    rw [ih]
theorem kv_of_vals : ∀ {ks : List Nm} {ys : List V} {us vs : List Value}, Vals (ks.map V.str) us → Vals ys vs → ks.length = ys.length →
    ∃ prs : List (Key × Value), KV (kvsOf ks ys) prs ∧ prs.length = ks.length ∧ ∀ (i : Nat) (k v : Value), us[i]? = some k → vs[i]? = some v → ∃ q : Key, prs[i]? = some (q, v) ∧ ∃ z, q = Sum.inr z ∧ ∃ t, k = .str z t
  | [], ys, us, vs, r1, r2, h => by
    cases ys with
    | nil => exact ⟨[], .nil, rfl, fun i k v e => by cases r1; simp at e⟩
    | cons y ys => simp at h
  | k :: ks, ys, us, vs, r1, r2, h => by
    cases ys with
    | nil => simp at h
    | cons y ys =>
      cases r1 with
      | cons a1 r1 =>
        cases r2 with
        | cons a2 r2 =>
          obtain ⟨t, rfl⟩ := a1
          obtain ⟨prs, p1, p2, p3⟩ := kv_of_vals r1 r2 (by simpa using h)
          rename_i v2 _
          refine ⟨(Sum.inr k, v2) :: prs, .cons ⟨rfl, a2⟩ p1, by simp [p2], fun i k' v' e1 e2 => ?_⟩
          cases i with
          | zero =>
            simp only [List.getElem?_cons_zero, Option.some.injEq] at e1 e2
            subst e1 e2
            exact ⟨Sum.inr k, rfl, k, rfl, t, rfl⟩
          | succ i => exact p3 i k' v' (by simpa using e1) (by simpa using e2)
theorem mem1_lt {N a : Nat} (h : a < N) : ∀ c ∈ [a], c < N := fun c hc => by
  rw [List.mem_singleton.mp hc]
  exact h
theorem lt5 {N M : Nat} (h : M = N + 5) : N ≤ M := by omega
theorem not4 {N c : Nat} (h : c < N) : c ∉ [N + 4, N + 3, N, N + 1] := fun hb => by
  simp only [List.mem_cons, List.not_mem_nil, or_false] at hb
  omega
theorem ne_big {N M b : Nat} (h : b < N) (e : N ≤ M) : M ≠ b := by omega
/-- dict(zip(ks, ys)), ks a list of names, ys a tuple as long -/
def tDictZip (K : PySem.W.Frag) (ta : TA) : TE := fun σ H Q => ta σ H fun vs H1 => ∃ a b ks ys, vs = [.ref a, .ref b] ∧ SqL K H1 a (ks.map V.str) ∧ SqT K H1 b ys ∧ ks.length = ys.length ∧ ks.Nodup ∧ ∀ p, H1 p = none → Q (.ref p) (upd H1 p (.dK (kvsOf ks ys)))
section
variable {X : Cx}
theorem pe_dictZip {e e2 : Expr} {ta : TA} {p p2 q pos : Pos} (hc : X.calm = true) (hg : Gl X "dict") (hm : X.mg "dict" = none) (hg2 : Gl X "zip") (hm2 : X.mg "zip" = none) (ha : PA X [e, e2] ta)
    (na : starEach [Expr.Call (.Name "zip" p2) [e, e2] [] q] X.env = (false, eval (Expr.Call (.Name "zip" p2) [e, e2] [] q) X.env) :: starEach [] X.env := by rfl)
    (hs : starEach [e, e2] X.env = (false, eval e X.env) :: starEach [e2] X.env := by rfl) (hpl : (backTo q (starEach [e2] X.env)).any (·.1) = false := by rfl) :
    PE X (.Call (.Name "dict" p) [.Call (.Name "zip" p2) [e, e2] [] q] [] pos) (tDictZip X.K ta) := by
  refine ⟨fun pins s σ H Q I h => ?_⟩
  refine Call_ (ld_blt I hg hm PyProof.Rows.boot_dict (PyProof.Rows.callWith_type1 (PyProof.Rows.args_cons ?_ na) na rfl))
  refine Call_ (ld_blt I hg2 hm2 PyProof.Rows.boot_zip (PyProof.Rows.callWith_type1 (thn (ha.run q pins s σ H _ I h) fun us s1 ⟨vs, H1, I1, r1, q1⟩ => ?_) hs hpl))
  obtain ⟨a, b, ks, ys, ex, hqa, hqb, hl, hnd, q1⟩ := q1
  subst ex
  obtain ⟨u1, u2, rfl, ra, rb⟩ := vals2 r1
  obtain rfl : u1 = Value.ref a := ra
  obtain rfl : u2 = Value.ref b := rb
  obtain ⟨its, rv, pl, hz⟩ := I1.list hqa
  obtain ⟨its2, rv2, pt, hz2⟩ := I1.tuple hqb
  have l1 : its.length = ks.length := by rw [← rv.length, List.length_map]
  have l2 : its2.length = ys.length := rv2.length.symm
  obtain ⟨o1, ho1, _⟩ := pl.isList
  obtain ⟨o2, ho2, _⟩ := id pt
  have hlt1 := Heap.lt_size ho1
  have hlt2 := Heap.lt_size ho2
  refine zip_begins2 (begins_list a its.toArray) (begins_tuple b its2.toArray) pl.isList pt fun h' hz' hTI hTO g1 g2 hsz hk => PyProof.Rows.args_nil ?_
  obtain ⟨prs, hkv, hpl2, hpr⟩ := kv_of_vals rv rv2 hl
  have two1 : ∀ h : Heap, (h.IsListIter s1.heap.objs.size a 0 ∧ h.IsList a its.toArray) → ∀ c ∈ [s1.heap.objs.size, a], ∃ o, h.get? c = some o := fun h st c m => by
    obtain ⟨⟨o, t, _⟩, o', t', _⟩ := st
    rcases (by simpa using m : c = s1.heap.objs.size ∨ c = a) with e | e
    · exact ⟨o, e ▸ t⟩
    · exact ⟨o', e ▸ t'⟩
  have two2 : ∀ h : Heap, (h.IsTupleIter (s1.heap.objs.size + 1) b 0 ∧ h.IsTuple b its2.toArray) → ∀ c ∈ [s1.heap.objs.size + 1, b], ∃ o, h.get? c = some o := fun h st c m => by
    obtain ⟨⟨o, t, _⟩, o', t', _⟩ := st
    rcases (by simpa using m : c = s1.heap.objs.size + 1 ∨ c = b) with e | e
    · exact ⟨o, e ▸ t⟩
    · exact ⟨o', e ▸ t'⟩
  have as_long : its2.toArray.size = its.toArray.size := by simp; omega
  have D1 : ∀ A : Around, A.handled = none → Draws X.prog X.w A s1.heap.objs.size [s1.heap.objs.size, a] its.toArray.size _ _ := fun A calm => Draws.list calm _ a (Nat.ne_of_lt hlt1) its.toArray
  have D2 : ∀ A : Around, A.handled = none → Draws X.prog X.w A (s1.heap.objs.size + 1) [s1.heap.objs.size + 1, b] its.toArray.size _ _ := fun A calm => as_long ▸ Draws.tuple calm _ b (Nat.ne_of_lt (Nat.lt_succ_of_lt hlt2)) its2.toArray
  refine PySem.call_dict_pairs (knd := mixKind X.prog X.w) (kvs := prs) (zip_arg (z := s1.heap.objs.size + 4) (TI := s1.heap.objs.size + 2) (TO := s1.heap.objs.size + 3) (zip_sep2 (fp1 := [a]) (fp2 := [b]) (mem1_lt hlt1) (mem1_lt hlt2)) D1 D2 two1 two2) (I.ok.hd hc)
    ⟨⟨hz', _, _, hTO⟩, hTI, ⟨⟨_, g1, rfl, rfl⟩, pl.isList.at fun o e => hk _ o e⟩, ⟨_, g2, rfl, rfl⟩, Heap.IsTuple.at (show s1.heap.IsTuple b its2.toArray from pt) fun o e => hk _ o e⟩ ⟨by simp; omega, fun i k v e => ?_⟩ (by rw [List.size_toArray, l1, ← List.length_map (f := V.str)]; exact hz) fun h'' tk hd' hk' => ?_
  · obtain ⟨q, e1, z, rfl, t, rfl⟩ := hpr i k v (by simpa using e.1) (by simpa using e.2)
    exact ⟨_, e1, kV_is (k := Sum.inr z) ⟨t, rfl⟩⟩
  · have hbig : s1.heap.objs.size ≤ h'.objs.size := lt5 hsz
    have hm' : (h'.objs.size == sysModules) = false := beq_eq_false_iff_ne.mpr (ne_big I1.big hbig)
    have hlen : (kvsOf ks ys).length ≤ sizeLine := by
      rw [KV.length hkv, hpl2, ← List.length_map (f := V.str)]
      exact hz
    refine ⟨.ref h'.objs.size, upd H1 h'.objs.size (.dK (kvsOf ks ys)), I1.laid (t' := tk) (fun c o e => hk' c o (not4 (Heap.lt_size e)) (hk c o e)) hbig (show ObjOk X.prog X.w _ _ _ (.dK (kvsOf ks ys)) from ⟨hlen, hm', merged [] prs, ?_, hd'⟩), rfl, q1 _ (I1.hok.fresh hbig)⟩
    have m := KV.merge hkv (kvs := []) (vs := []) .nil
    rw [kvs_merge hl hnd] at m
    exact m
theorem prs_of {pins : List (Addr × Obj)} {σ : L2.St} {H : Hp} {s : Shared} (I : Inv X pins σ H s) : ∀ {b : Bx} {vs : List V}, Al PrAt b vs H → ∃ ts : List Addr, vs = ts.map V.ref ∧ ts.length = b.length ∧ ∃ prs : List (Key × Value), KV (bxK b) prs ∧
    ∃ pv : List (Value × Value), pv.length = b.length ∧ ∀ (j : Nat) (k v : Value), pv[j]? = some (k, v) → (∃ t, ts[j]? = some t ∧ s.heap.IsTuple t #[k, v]) ∧ ∃ z, prs[j]? = some (Sum.inr z, v) ∧ ∃ tk, k = .str z tk
  | [], _, h => ⟨[], h, rfl, [], .nil, [], rfl, fun j k v e => by simp at e⟩
  | p :: b, _, ⟨u, us, e, h, hs⟩ => by
    subst e
    obtain ⟨ts, e1, e2, prs, e3, pv, e4, e5⟩ := prs_of I hs
    obtain ⟨a, rfl, ha⟩ := h
    obtain ⟨_, its, rv, ht⟩ := (show ObjOk X.prog X.w H s.heap a (.tup _) from I.hok a _ ha)
    obtain ⟨u1, u2, rfl, r1, r2⟩ := vals2 rv
    obtain ⟨t1, rfl⟩ := r1
    obtain ⟨t2, rfl⟩ := r2
    refine ⟨a :: ts, by rw [e1]; rfl, by simp [e2], (Sum.inr p.1, .int p.2 t2) :: prs, .cons ⟨rfl, t2, rfl⟩ e3, (.str p.1 t1, .int p.2 t2) :: pv, by simp [e4], fun j k v e => ?_⟩
    cases j with
    | zero =>
      simp only [List.getElem?_cons_zero, Option.some.injEq, Prod.mk.injEq] at e
      obtain ⟨rfl, rfl⟩ := e
      exact ⟨⟨a, rfl, ht⟩, p.1, rfl, t1, rfl⟩
    | succ j => exact e5 j k v (by simpa using e)
/-- dict(xs), xs a known tuple of pairs (name, number) -/
def rDictF : List V → Hp → VK → Prop := fun xs H Q => ∃ (a : Addr) (vs : List V) (b : Bx), xs = [.ref a] ∧ Fz vs a H ∧ Al PrAt b vs H ∧ (b.map (·.1)).Nodup ∧ b.length ≤ 1000 ∧ ∀ p, H p = none → Q (.ref p) (upd H p (.dK (bxK b)))
theorem bxK_len (b : Bx) : (bxK b).length = b.length := by unfold bxK; rw [List.length_map]
theorem cl_dictF (hc : X.calm = true) : CallR X (.type "dict") rDictF := by
  intro pins s σ H xs us Q I r h
  obtain ⟨a, vs, b, rfl, ⟨o, hod, hfz⟩, hal, hnd, hlen, q⟩ := h
  obtain ⟨u, rfl, rx⟩ := vals1 r
  obtain rfl : u = Value.ref a := rx
  obtain ⟨ho, hz, its, rv, o', ho', hcl, n, hdt⟩ := (show ObjOk X.prog X.w H s.heap a (.frz o (.tup vs)) from I.hok a _ hfz)
  rw [ho] at ho'
  cases ho'
  obtain ⟨ts, e1, e2, prs, hkv, pv, hpl, hpv⟩ := prs_of I hal
  subst e1
  have ei := refs_at rv
  subst ei
  have hprl : prs.length = b.length := by rw [← KV.length hkv, bxK_len]
  refine PySem.call_dict_pairs (knd := mixKind X.prog X.w) (kvs := prs) (PairArg.tuple a (ts.map Value.ref).toArray (fun j => ts.getD j 0) pv) (I.ok.hd hc) ⟨⟨o, n, ho, hcl, hod, hdt⟩, by simp [hpl, e2], fun j k v e => ?_⟩ ⟨by rw [hprl, hpl], fun i k v e => ?_⟩ (Evl.sz_of (by omega)) fun h' tk hd' hk' => ?_
  · obtain ⟨⟨t, ht, hit⟩, _⟩ := hpv j k v e
    have hg : ts.getD j 0 = t := by rw [List.getD_eq_getElem?_getD, ht]; rfl
    refine ⟨by
      show (ts.map Value.ref).toArray[j]? = some (Value.ref (ts.getD j 0))
      rw [hg]
      simp [ht], ?_⟩
    show PairAt s.heap (ts.getD j 0) k v
    rw [hg]
    exact .inl hit
  · obtain ⟨_, z, hz', tk, rfl⟩ := hpv i k v e
    exact ⟨Sum.inr z, hz', kV_is (k := Sum.inr z) ⟨tk, rfl⟩⟩
  · have hm : (s.heap.objs.size == sysModules) = false := beq_eq_false_iff_ne.mpr (Nat.ne_of_gt I.big)
    have hn2 : ((bxK b).map (·.1)).Nodup := by
      unfold bxK
      rw [List.map_map]
      have e : ((fun x : Key × V => x.1) ∘ fun p : Nm × Int => ((Sum.inr p.1 : Key), V.int p.2)) = Sum.inr ∘ fun p : Nm × Int => p.1 := rfl
      rw [e, ← List.map_map]
      exact hnd.map _ fun a b ne e => ne (Sum.inr.inj e)
    have mg : mergeK [] (bxK b) = bxK b := by
      have := mergeK_new (bxK b) [] (by rw [List.nil_append]; exact hn2)
      simpa using this
    have m := KV.merge hkv (kvs := []) (vs := []) .nil
    rw [mg] at m
    exact ⟨.ref s.heap.objs.size, upd H s.heap.objs.size (.dK (bxK b)), I.laid (t' := tk) (fun c o e => hk' c o (by simp) e) (Nat.le_refl _) (show ObjOk X.prog X.w _ _ _ (.dK (bxK b)) from ⟨by rw [bxK_len]; exact Evl.sz_of (by omega), hm, merged [] prs, m, hd'⟩), rfl, q _ (I.hok.fresh (Nat.le_refl _))⟩
/-- tuple(xs), xs a list: a known tuple -/
def rTupF (K : PySem.W.Frag) : List V → Hp → VK → Prop := fun xs H Q => ∃ p ys, xs = [.ref p] ∧ SqL K H p ys ∧ ∀ l (o : Obj), o.dict = none → H l = none → Q (.ref l) (upd H l (.frz o (.tup ys)))
theorem cl_tupF : CallR X (.type "tuple") (rTupF X.K) := fun pins s σ H xs us Q I r ⟨p, ys, is, sq, go⟩ => by
  subst is
  obtain ⟨v, rfl, rv⟩ := vals1 r
  obtain rfl : v = .ref p := rv
  obtain ⟨vals, same, plain, small⟩ := I.list sq
  have room : vals.toArray.size ≤ sizeLine := Nat.le_trans (Nat.le_of_eq (List.size_toArray.trans same.length.symm)) small
  refine call_tuple_list plain.isList (fun h' rest => ?_) room
  have known : ObjOk X.prog X.w (upd H h'.objs.size (.frz { cls := .type "tuple", data := .seq vals.toArray } (.tup ys))) (h'.push { cls := .type "tuple", data := .seq vals.toArray }) h'.objs.size (.frz { cls := .type "tuple", data := .seq vals.toArray } (.tup ys)) :=
    ⟨Heap.get?_push_size _ rfl, small, vals, same, IsTup.new _ _⟩
  have home : Inv X pins σ H { s with heap := h' } := I.kept rest (t' := s.toks)
  exact ⟨.ref h'.objs.size, _, home.laid (t' := s.toks) (fun _ _ e => Heap.get?_push_of_some _ e) (Nat.le_refl _) known, rfl, go _ _ rfl (home.hok.fresh (Nat.le_refl _))⟩
/-! ### o.f among the targets -/
def gFldT (K : PySem.W.Frag) (ta : TE) (f : Str) : TG := fun v σ H Q => ta σ H fun x H2 => ∃ a C dx fs, x = .ref a ∧ H2 a = some (.ins C dx fs) ∧ Cls K C ∧ NoAttr K C f ∧ fs.length < 1000 ∧ Q σ (upd H2 a (.ins C dx (putF f v fs)))
theorem pg_fld {o : Expr} {ta : TE} {f : Str} {pos : Pos} (ha : PE X o ta) : PG X (.Attribute o f pos) (gFldT X.K ta f) := by
  refine ⟨fun pins s σ H v u Q I r h => ?_⟩
  rw [assign_Attribute]
  refine wpAny_bind (wpAny_holding (thn (ha.run pins s σ H _ I h) fun ov s1 ⟨x, H1, I1, r1, a, C, dx, fs, ex, ea, c, n, l, q⟩ => ?_))
  subst ex
  obtain rfl : ov = Value.ref a := r1
  refine wpAny_bind (wpAny_standAt (wpAny_bind (wpAny_holding (setattr_ok I1 ea c n l r fun s3 I3 => ?_))))
  exact wpAny_release ⟨σ, _, I3, q⟩
end
end PM
/-! part PZ -/
namespace PM
open PySem PySem.Spec PyProof.Rows L2 PMH
open Evl (Ex)
section
variable {K : PySem.W.Frag} {σ : L2.St} {H : Hp} {Q : VK} {a p : Addr} {xs ys : List V} {nx bk ct : L2.St → Hp → Prop} {rt : VK} {ta tv : TE} {f : Str} {v : V} {tr : TA}
/-! ### fields -/
def GfK (K : PySem.W.Frag) (f : Str) (v : V) (R : Hp → Prop) : VK := fun x H2 => ∃ a C dx fs, x = .ref a ∧ H2 a = some (.ins C dx fs) ∧ Cls K C ∧ NoAttr K C f ∧ fs.length < 1000 ∧ R (upd H2 a (.ins C dx (putF f v fs)))
theorem g_gfld {R : L2.St → Hp → Prop} (h : ta σ H (GfK K f v (R σ))) : gFldT K ta f v σ H R := h
theorem g_gfldA {C dx : Addr} {fs : List (Str × V)} {R : Hp → Prop} (h : At H a (.ins C dx fs)) (c : Cls K C) (n : NoAttr K C f) (l : fs.length < 1000) (q : R (upd H a (.ins C dx (putF f v fs)))) : GfK K f v R (.ref a) H := ⟨a, C, dx, fs, rfl, h, c, n, l, q⟩
theorem g_sf (h : tv σ H fun y H1 => ta σ H1 (GfK K f y (nx σ))) : sFld K ta tv f ⟨nx, rt, bk, ct⟩ σ H := h
def FaK (K : PySem.W.Frag) (f : Str) (tv : TE) (rd : V → V → Hp → VK → Prop) (nx : L2.St → Hp → Prop) (σ : L2.St) : VK := fun x H1 => ∃ a C dx fs v, x = .ref a ∧ H1 a = some (.ins C dx fs) ∧ Cls K C ∧ NoAttr K C f ∧ fs.lookup f = some v ∧
  tv σ H1 fun y H2 => rd v y H2 fun z H3 => ∃ dx' fs', H3 a = some (.ins C dx' fs') ∧ fs'.length < 1000 ∧ nx σ (upd H3 a (.ins C dx' (putF f z fs')))
theorem g_faug {rd : V → V → Hp → VK → Prop} (h : ta σ H (FaK K f tv rd nx σ)) : sFldAug K ta tv rd f ⟨nx, rt, bk, ct⟩ σ H := h
theorem g_faugA {C dx : Addr} {fs : List (Str × V)} {i k : Int} (h : At H a (.ins C dx fs)) (c : Cls K C) (n : NoAttr K C f) (l : fs.lookup f = some (.int i)) (z : fs.length < 1000) (q : nx σ (upd H a (.ins C dx (putF f (.int (i + k)) fs)))) : FaK K f (tC (.int k)) rAdd nx σ (.ref a) H :=
  ⟨a, C, dx, fs, _, rfl, h, c, n, l, i, k, rfl, rfl, dx, fs, h, z, q⟩
theorem g_upd {a : Addr} {o : HO} {R : Hp → Prop} (h : ∀ H1, Kp [a] H H1 → At H1 a o → R H1) : R (upd H a o) := h _ (kp_upd (by simp)) at_new
theorem g_updG {a : Addr} {o : HO} {tg : TGs} {R : L2.St → Hp → Prop} (h : ∀ H1, Kp [a] H H1 → At H1 a o → tg xs σ H1 R) : tg xs σ (upd H a o) R := h _ (kp_upd (by simp)) at_new
/-! ### dicts, tuples -/
def DzK (K : PySem.W.Frag) (Q : VK) (vs : List V) (H1 : Hp) : Prop := ∃ a b ks ys, vs = [.ref a, .ref b] ∧ SqL K H1 a (ks.map V.str) ∧ SqT K H1 b ys ∧ ks.length = ys.length ∧ ks.Nodup ∧ ∀ p, H1 p = none → Q (.ref p) (upd H1 p (.dK (kvsOf ks ys)))
theorem g_dzip (h : tr σ H (DzK K Q)) : tDictZip K tr σ H Q := h
/-- .. names and boxes -/
theorem g_dzipA {a b : Addr} {bx : Bx} (h1 : At H a (.lst (sV (bx.map (·.1))))) (h2 : At H b (.tup (nbV bx))) (n : (bx.map (·.1)).Nodup) (q : ∀ p H1, H p = none → Ex H H1 → At H1 p (.dK (bxK bx)) → Q (.ref p) H1) : DzK K Q [.ref a, .ref b] H :=
  ⟨a, b, bx.map (·.1), nbV bx, rfl, h1.sqL, h2.sqT, by unfold nbV; simp, n, fun p hp => by
    have e : kvsOf (bx.map (·.1)) (nbV bx) = bxK bx := kvs_bxK _ bx rfl
    rw [e]
    exact q p _ hp (ex_new hp) at_new⟩
def TvK (Q : VK) : VK := fun x H1 => ∃ a kvs, x = V.ref a ∧ H1 a = some (.dK kvs) ∧ ∀ p, H1 p = none → Q (.ref p) (upd H1 p (.tup (kvs.map (·.2))))
theorem g_tupvals (h : ta σ H (TvK Q)) : tTupVals ta σ H Q := h
theorem g_tupvalsA {kvs : List (Key × V)} (e : At H a (.dK kvs)) (q : ∀ p H1, H p = none → Ex H H1 → At H1 p (.tup (kvs.map (·.2))) → Q (.ref p) H1) : TvK Q (.ref a) H := ⟨a, kvs, rfl, e, fun p hp => q p _ hp (ex_new hp) at_new⟩
theorem g_dictF {b : Bx} {vs : List V} (h : Fz vs a H) (al : Al PrAt b vs H) (n : (b.map (·.1)).Nodup) (l : b.length ≤ 1000) (q : ∀ p H1, H p = none → Ex H H1 → At H1 p (.dK (bxK b)) → Q (.ref p) H1) : rDictF [.ref a] H Q :=
  ⟨a, vs, b, rfl, h, al, n, l, fun p hp => q p _ hp (ex_new hp) at_new⟩
theorem g_tupF (h : At H a (.lst xs)) (q : ∀ p H1, H p = none → Ex H H1 → Fz xs p H1 → Q (.ref p) H1) : rTupF K [.ref a] H Q := ⟨a, xs, rfl, h.sqL, fun l o ho hl => q l _ hl (ex_new hl) ⟨o, ho, at_new⟩⟩
/-- xs + ys, tuples -/
theorem g_catA {b : Addr} (h1 : At H a (.tup xs)) (h2 : At H b (.tup ys)) (l : xs.length + ys.length ≤ 1000) (q : ∀ p H1, Ex H H1 → At H1 p (.tup (xs ++ ys)) → Q (.ref p) H1) : rCatA K (.ref a) (.ref b) H Q := by
  refine ⟨a, b, xs, ys, rfl, rfl, h1.sqT, h2.sqT, Evl.sz_of (by omega), fun e => ?_, fun _ e => ?_, fun _ _ p hp => q p _ (ex_new hp) at_new⟩
  · subst e
    exact q b H (Evl.Ex.refl _) h2
  · subst e
    refine q a H (Evl.Ex.refl _) ?_
    rw [List.append_nil]
    exact h1
theorem g_cat {b : Addr} (h1 : At H a (.lst xs)) (h2 : At H b (.lst ys)) (l : xs.length + ys.length ≤ 100000) (q : ∀ p H1, H p = none → Ex H H1 → At H1 p (.lst (xs ++ ys)) → Q (.ref p) H1) : rCat (.ref a) (.ref b) H Q := ⟨a, b, xs, ys, rfl, rfl, h1, h2, Evl.sz_of (by omega), g_new q⟩
end
/-! ### list(range(n)) -/
abbrev nV (ns : List Nat) : List V := ns.map fun (n : Nat) => V.int (n : Int)
section
variable {σ : L2.St} {H : Hp} {Q : VK} {ta : TE}
def LrK (Q : VK) : VK := fun x H1 => ∃ n, x = .int n ∧ RgOk 0 n ∧ ∀ q, H1 q = none → Q (.ref q) (upd H1 q (.lst (rgV 0 n)))
theorem g_lrg (h : ta σ H (LrK Q)) : tLstRg (tRg1 ta) σ H Q := h
theorem g_lrgA {n : Nat} {j : Int} (e : j = (n : Int)) (l : n ≤ 1000) (q : ∀ p H1, H p = none → Ex H H1 → At H1 p (.lst (nV (List.range n))) → Q (.ref p) H1) : LrK Q (.int j) H := by
  subst e
  have e : rgV 0 (n : Int) = nV (List.range n) := by
    unfold rgV
    rw [show ((n : Int) - 0).toNat = n by omega]
    exact List.map_congr_left fun i _ => by rw [Int.zero_add]
  exact ⟨n, rfl, RgOk.of_le (by omega) (by omega) (by omega) (by omega), fun p hp => by rw [e]; exact q p _ hp (ex_new hp) at_new⟩
end
/-! ### boxes -/
theorem put_names (b : Bx) (s : Nm) (v : Int) : (put b s v).map (·.1) = b.map (·.1) := by
  unfold put
  rw [List.map_map]
  refine List.map_congr_left fun p _ => ?_
  show (if p.1 = s then (p.1, v) else p).1 = p.1
  split <;> rfl
theorem put_ok {b : Bx} (h : BxOk b) (s : Nm) {v : Int} (h1 : 0 ≤ v) (h2 : v < 100) : BxOk (put b s v) := fun p m => by
  unfold put at m
  obtain ⟨q, hq, e⟩ := List.mem_map.mp m
  split at e
  · subst e
    exact ⟨h1, h2⟩
  · subst e
    exact h q hq
theorem putK_bxK {b : Bx} {s : Nm} (v : Int) (h : s ∈ b.map (·.1)) : putK (bxK b) (Sum.inr s) (.int v) = bxK (put b s v) := by
  have a : ((bxK b).any fun kv => decide (kv.1 = Sum.inr s)) = true := by
    obtain ⟨p, hp, e⟩ := List.mem_map.mp h
    exact List.any_eq_true.mpr ⟨(Sum.inr p.1, .int p.2), List.mem_map.mpr ⟨p, hp, rfl⟩, decide_eq_true (by show (Sum.inr p.1 : Key) = Sum.inr s; rw [e])⟩
  unfold putK
  rw [if_pos a]
  unfold bxK put
  rw [List.map_map, List.map_map]
  refine List.map_congr_left fun p _ => ?_
  show (if (Sum.inr p.1 : Key) = Sum.inr s then ((Sum.inr p.1 : Key), V.int v) else (Sum.inr p.1, V.int p.2)) = ((Sum.inr (if p.1 = s then (p.1, v) else p).1 : Key), V.int (if p.1 = s then (p.1, v) else p).2)
  by_cases e : p.1 = s
  · rw [if_pos e, if_pos (by rw [e])]
  · rw [if_neg e, if_neg (fun q => e (Sum.inr.inj q))]
theorem bxK_snd (b : Bx) : (bxK b).map (·.2) = nbV b := by
  unfold bxK nbV
  rw [List.map_map]
  rfl
/-! ### letters compared -/
theorem lt_eqv (a b : Lt) : PyData.eqv (encL a) (encL b) = decide (a = b) := by
  obtain ⟨a1, a2, a3, a4, a5, a6⟩ := a
  obtain ⟨b1, b2, b3, b4, b5, b6⟩ := b
  simp only [encL, PyData.eqv, PyData.eqvAll, Lt.mk.injEq, Bool.and_true]
  by_cases h1 : a1 = b1 <;> by_cases h2 : a2 = b2 <;> by_cases h3 : a3 = b3 <;> by_cases h4 : a4 = b4 <;> by_cases h5 : a5 = b5 <;> by_cases h6 : a6 = b6 <;> simp [h1, h2, h3, h4, h5, h6]
theorem LtAt.dp {K : PySem.W.Frag} {l : Lt} {v : V} {H : Hp} (h : LtAt l v H) : Dp K H v (encL l) := by
  obtain ⟨a, rfl, h⟩ := h
  exact .tup h.sqT (.cons (.int _) (.cons (.int _) (.cons (.int _) (.cons (.int _) (.cons (.str _) (.cons (.int _) .nil))))))
theorem kinds_ok : ∀ k ∈ kinds, PyData.canLay0 (.str k) = true := by decide +kernel
theorem encL_shaped {a : Lt} (h : a.kind ∈ kinds) : SeqAt.shaped (encL a) = true := by
  have e := kinds_ok _ h
  simp [encL, SeqAt.shaped, PyData.canLay0, PyData.canLayAll0, PyData.depth, PyData.depthAll] at e ⊢
  exact e
theorem g_neLt {K : PySem.W.Frag} {a b : Lt} {u v : V} {H : Hp} {Q : VK} (h1 : LtAt a u H) (h2 : LtAt b v H) (k1 : a.kind ∈ kinds) (k2 : b.kind ∈ kinds) (q : Q (.bl (!decide (a = b))) H) : rNeD K u v H Q :=
  ⟨encL a, encL b, h1.dp, h2.dp, encL_shaped k1, encL_shaped k2, by rw [lt_eqv]; exact q⟩
/-! ### a def with a default -/
structure Fd (P : Program) (w : World) (K : PySem.W.Frag) (mg : Str → Option Value) (base : Heap) (CX : CXT) (k : Nat) (x : Str) (ps : List Str) (dvs : List V) (sp : Sp) : Prop where
  ex : ∃ f fd ds, FnOk P w K mg base CX k f fd ps sp ∧ mg x = some (.ref f) ∧ PySem.W.keepIn K (.ref f) = true ∧ Binds K fd ps ds ∧ Vals dvs ds
def CaD (dvs : List V) (sp : Sp) (E : XK) (Q : VK) (vs : List V) (H1 : Hp) : Prop := sp (vs ++ dvs) H1 Q E
theorem g_callD {σ : L2.St} {H : Hp} {Q : VK} {tr : TA} {dvs : List V} {sp : Sp} {E : XK} (h : tr σ H (CaD dvs sp E Q)) : tCall sp dvs E tr σ H Q := h
section
variable {P : Program} {w : World} {K : PySem.W.Frag} {mg : Str → Option Value} {base : Heap}
theorem mk_fnD {x nm qual : Str} {st : Stmt} {N ps : List Str} {k : Nat} {sp : Sp} {f : Addr} {fd : FuncData} (F : FunD K nm qual (defArgs st) (defBody st) (defScope st) [.non] [] f fd) (hm : mg x = some (.ref f)) (sc : FnScope N ps (defScope st)) (len : Counts sp ps)
    (bind : ∀ (T : Addr) (kV doc pm : Value) (an : Option Addr) (cdv ct : Value) (us its : List Value), us.length = 3 → its.length = [V.non].length →
      ∃ k, bindArgs (PySem.W.fnOf nm qual (defArgs st) (defBody st) (defScope st) (.ref T) kV doc pm an cdv ct) ⟨us, []⟩ = seqItems? (.ref T) >>= k ∧ k (some its.toArray) = pure (ps.zip (us ++ its.drop 0)))
    (body : Runs P w K mg base N qual st k f sp) (hps : 3 + 1 = ps.length := by rfl) : Fd P w K mg base CX0 (k + 1) x ps [.non] sp := by
  obtain ⟨ds, h1, h2⟩ := F.binds1 (ps := ps) 3 0 (by simp) hps bind
  exact ⟨f, fd, ds, F.ok sc len fun cdv A outer s H vs Q E r h => (body cdv A outer s H vs Q E r h).imp fun _ b => ⟨b.1.nox, b.2⟩, hm, F.kp, h2, h1⟩
end
theorem Al.set {α : Type} {R : α → V → Hp → Prop} {H : Hp} {x : α} {u : V} : ∀ {xs : List α} {vs : List V} (i : Nat), Al R xs vs H → R x u H → Al R (xs.set i x) (vs.set i u) H
  | [], _, _, h, _ => by rw [show _ = [] from h]; exact rfl
  | y :: xs, _, 0, ⟨v, vs, e, h, k⟩, r => by subst e; exact ⟨u, vs, rfl, r, k⟩
  | y :: xs, _, i + 1, ⟨v, vs, e, h, k⟩, r => by subst e; exact ⟨v, vs.set i u, rfl, h, Al.set i k r⟩
theorem set_cut {α : Type} (xs : List α) {i : Nat} (v : α) (h : i < xs.length) : xs.take i ++ [v] ++ xs.drop (i + 1) = xs.set i v := by
  rw [List.set_eq_take_append_cons_drop, if_pos h, List.append_assoc]
  rfl
theorem cut_lo (xs : List V) (i : Nat) : cutV xs none (some (i : Int)) = xs.take i := by
  unfold cutV
  rw [HT.sIx_none, HT.sIx_nat, List.drop_zero, Nat.sub_zero]
  by_cases h : i ≤ xs.length
  · rw [Nat.min_eq_left h]
  · rw [Nat.min_eq_right (by omega), List.take_of_length_le (by omega), List.take_of_length_le (by omega)]
theorem cut_hi (xs : List V) (i : Nat) : cutV xs (some (i : Int)) none = xs.drop i := by
  unfold cutV
  rw [HT.sIx_none, HT.sIx_nat]
  by_cases h : i ≤ xs.length
  · rw [Nat.min_eq_left h, List.take_of_length_le (by rw [List.length_drop]; omega)]
  · rw [Nat.min_eq_right (by omega), List.drop_of_length_le (by omega), List.drop_of_length_le (by omega), List.take_nil]
end PM
/-! part F8 -/
namespace PM
open PySem PySem.Spec PyProof.Rows L2 PMH
open Evl (Ex)

local macro_rules | `(tactic| walk_at "ex") => `(tactic| first
  | with_reducible assumption
  | with_reducible exact Evl.Ex.refl _
  | (refine Evl.Ex.trans ?_ (by with_reducible assumption); walk_at "ex"))
local macro_rules | `(tactic| walk_at "hx") => `(tactic| first
  | with_reducible assumption
  | (refine At.ex (by with_reducible assumption) ?_; walk_at "ex")
  | (refine Fz.tx (by with_reducible assumption) ?_; walk_at "tx")
  | (refine TrAt.ex (by with_reducible assumption) ?_; walk_at "ex")
  | (refine MlAt.tx ?_ (by with_reducible assumption); walk_at "tx")
  | (refine PlAt.tx ?_ (by with_reducible assumption); walk_at "tx")
  | (refine LtAt.tx ?_ (by with_reducible assumption); walk_at "tx")
  | (refine GvAt.tx ?_ (by with_reducible assumption); walk_at "tx")
  | (refine WsAt.tx ?_ (by with_reducible assumption); walk_at "tx")
  | (refine RwAt.tx ?_ _ _ (by with_reducible assumption); walk_at "tx")
  | (refine RwsAt.tx ?_ _ _ (by with_reducible assumption); walk_at "tx")
  | (refine RuAt.tx ?_ (by with_reducible assumption); walk_at "tx")
  | (refine PrAt.tx ?_ (by with_reducible assumption); walk_at "tx"))
local macro_rules | `(tactic| walk_at "num") => `(tactic| first
  | with_reducible assumption
  | decide
  | exact Or.inl ⟨by omega, by omega⟩
  | exact Or.inr ⟨by omega, by omega⟩
  | (refine ⟨?_, ?_⟩ <;> omega)
  | (show (0 : Int) < _; omega))
local macro_rules | `(tactic| walk_at "tx") => `(tactic| first
  | with_reducible assumption
  | (refine Tx.ex ?_; walk_at "ex"))
local macro_rules | `(tactic| walk_at "sz") => `(tactic| first
  | with_reducible assumption
  | omega
  | (refine Evl.sz_of ?_; omega)
  | (refine Evl.sz_lt ?_; omega))
local macro_rules | `(tactic| walk_at "fl") => `(tactic| first
  | rfl
  | decide +kernel)

def MiAt (K : PySem.W.Frag) (m : List Pl) (a : Addr) (H : Hp) : Prop := ∃ dx tree, At H a (.ins (He.ga K "Mill") dx [("told_so", tree)]) ∧ MlAt m tree H
theorem MiAt.ex {K : PySem.W.Frag} {m : List Pl} {a : Addr} {H H' : Hp} (h : MiAt K m a H) (e : Ex H H') : MiAt K m a H' := by
  obtain ⟨dx, tree, h1, h2⟩ := h
  exact ⟨dx, tree, h1.ex e, h2.tx (Tx.ex e)⟩
theorem MiAt.kp {K : PySem.W.Frag} {m : List Pl} {a : Addr} {R : List Addr} {H H' : Hp} (h : MiAt K m a H) (k : Kp R H H') (n : a ∉ R) (t : Tx H H') : MiAt K m a H' := by
  obtain ⟨dx, tree, h1, h2⟩ := h
  exact ⟨dx, tree, h1.kp k n, h2.tx t⟩
theorem MiAt.ne {K : PySem.W.Frag} {m : List Pl} {a F : Addr} {H : Hp} {o : HO} (h : MiAt K m a H) (hF : At H F o) (n : ∀ C dx fs, o ≠ .ins C dx fs := by intro C dx fs z; cases z) : a ∉ [F] := by
  obtain ⟨dx, tree, h1, h2⟩ := h
  simp only [List.mem_singleton]
  exact h1.ne hF fun z => n _ _ _ z.symm
theorem MiAt.ins {K : PySem.W.Frag} {m : List Pl} {a : Addr} {H : Hp} (h : MiAt K m a H) : ∃ dx tree, At H a (.ins (He.ga K "Mill") dx [("told_so", tree)]) := by
  obtain ⟨dx, tree, h1, h2⟩ := h
  exact ⟨dx, tree, h1⟩
def ruleOf (ru : List (Nm × List Row)) (k : Nm) : List Row := (ru.lookup k).getD []
theorem ruleOf_first {ru : List (Nm × List Row)} {k : Nm} {i : Nat} {q : Nm × List Row} (h : ru[i]? = some q) (e : q.1 = k) (no : ∀ x ∈ ru.take i, ¬ x.1 = k) : ruleOf ru k = q.2 := by
  induction ru generalizing i with
  | nil => simp at h
  | cons x r ih =>
    obtain ⟨n, z⟩ := x
    unfold ruleOf
    cases i with
    | zero =>
      simp only [List.getElem?_cons_zero, Option.some.injEq] at h
      subst h
      have e2 : (k == n) = true := beq_iff_eq.mpr e.symm
      rw [List.lookup, e2]
      rfl
    | succ i =>
      have hn : ¬ n = k := no (n, z) (by simp)
      have e2 : (k == n) = false := beq_eq_false_iff_ne.mpr fun h => hn h.symm
      rw [List.lookup, e2]
      exact ih (by simpa using h) fun x m => no x (by rw [List.take_succ_cons]; exact List.mem_cons_of_mem _ m)
theorem ruleOf_none {ru : List (Nm × List Row)} {k : Nm} (no : ∀ x ∈ ru, ¬ x.1 = k) : ruleOf ru k = [] := by
  induction ru with
  | nil => rfl
  | cons x r ih =>
    obtain ⟨n, z⟩ := x
    have hn : ¬ n = k := no (n, z) (by simp)
    have e2 : (k == n) = false := beq_eq_false_iff_ne.mpr fun h => hn h.symm
    unfold ruleOf
    rw [List.lookup, e2]
    exact ih fun x m => no x (List.mem_cons_of_mem _ m)
section
variable {P : Program} {w : World} {K : PySem.W.Frag} {mg : Str → Option Value} {base : Heap}
def sp_Mill_init (K : PySem.W.Frag) : Sp := fun vs H Q _ => ∃ (a dx : Addr) (tree : V) (m : List Pl), vs = [.ref a, tree] ∧ At H a (.ins (He.ga K "Mill") dx []) ∧ MlAt m tree H ∧ MlOk m ∧
  ∀ H', Kp [a] H H' → At H' a (.ins (He.ga K "Mill") dx [("told_so", tree)]) → Q .non H'
abbrev N_Mill_init : List Str := ["self", "tree"]
theorem sc_Mill_init : FnScope N_Mill_init ["self", "tree"] (defScope s_Mill_init) := ⟨rfl, rfl, rfl, by decide +kernel, rfl, by decide +kernel, by decide +kernel⟩
theorem ok_Mill_init (T : TX w K mg)  : Cl P w K mg base CX0 (21) "Mill" (He.ga K "Mill") ["self", "tree"] (sp_Mill_init K) := by
  have f_is_mill := ok_is_mill (P := P) (base := base) T
  obtain ⟨fd, F⟩ := T.d_Mill_init
  refine mk_cl F T.m_Mill T.g_Mill sc_Mill_init (fun vs H Q E h => by obtain ⟨_, _, _, _, rfl, _⟩ := h; rfl) (fun _ _ _ _ _ _ us hl => match us, hl with | [_, _], _ => rfl) (fun cdv A outer s H vs Q E hr h => ?_)
  obtain ⟨a, dx, tree, m, rfl, ha, hm, hk, hq⟩ := h
  have hu := hu_of hr
  refine ⟨(tSeq (tIfS (tNot (tB (tCall sp_is_mill [] E0 (tCons (tVar 1) tNil)))) tNever tNext) (sFld K (tVar 0) (tVar 1) "told_so")),
      (pss_cons (ps_if (pt_not (pt_val (f_is_mill.ex.elim fun _ q => q.elim fun _ q => pe_call q.1 (hr.mono (by omega)) (by rfl) q.2.1 q.2.2.1 q.2.2.2 .nil pass0 (pa_cons (pv 1) pa_nil)))) (pss_one ps_never) pss_nil)
      (pss_one (ps_fld (pv 0) (pv 1) rfl))), ?_⟩
  refine g_start (σ' := [some _, some _]) rfl ?_
  refine g_seq (g_ifs (g_not (g_tB (g_call (g_cons (g_v1 (g_nil ?_)))))))
  refine ⟨m, tree, rfl, hm, hk, fun H1 e1 => ?_⟩
  refine g_k (g_iteF (g_next (g_sf (g_v1 (g_v0 (g_gfldA (by walk_at "hx") T.c_Mill T.n_told_so (by exact of_decide_eq_true rfl) ?_))))))
  exact hq _ ((kp_ex e1).trans (kp_upd (by simp))) at_new
def sp_Mill_places (K : PySem.W.Frag) : Sp := fun vs H Q _ => ∃ (a : Addr) (m : List Pl), vs = [.ref a] ∧ MiAt K m a H ∧ m.length ≤ 100 ∧ ∀ p H', H p = none → Ex H H' → At H' p (.lst (sV (namesOf m))) → Q (.ref p) H'
abbrev N_Mill_places : List Str := ["self", "place"]
theorem sc_Mill_places : FnScope N_Mill_places ["self"] (defScope s_Mill_places) := ⟨rfl, rfl, rfl, by decide +kernel, rfl, by decide +kernel, by decide +kernel⟩
theorem ok_Mill_places (T : TX w K mg)  : Me P w K mg base CX0 (1) (He.ga K "Mill") "places" ["self"] (sp_Mill_places K) := by
  obtain ⟨fd, F⟩ := T.d_Mill_places
  refine mk_me F T.me_Mill_places sc_Mill_places (fun vs H Q E h => by obtain ⟨_, _, rfl, _⟩ := h; rfl) (fun _ _ _ _ _ _ us hl => match us, hl with | [_], _ => rfl) (fun cdv A outer s H vs Q E hr h => ?_)
  obtain ⟨a, m, rfl, ha, hl, hq⟩ := h
  have hu := hu_of hr
  refine ⟨(tRet (tLc (iTup K (tFld K (tVar 0) "told_so")) (gName 1) tYes (tOp (rIxT K) (tVar 1) (tC (.int 0))) [1])),
      (pss_one (ps_ret (pe_lc (own := [("place", 1)]) (wi := (iTup K (tFld K (tVar 0) "told_so"))) (g := (gName 1)) (tt := tYes) (te := (tOp (rIxT K) (tVar 1) (tC (.int 0)))) rfl sc_Mill_places.nd (pi_tup (pe_fld (pv 0) rfl)) (blkOk_by (N := N_Mill_places) (sc := defScope s_Mill_places) (by decide +kernel)) (fun _ _ _ _ _ => (pg_name (i := 1) sc_Mill_places.nd rfl (Or.inl rfl))) (fun _ _ _ _ _ => pts_nil) (fun _ _ _ _ _ => (pe_ix ix_tup (pv 1) pe_int (fun _ _ => rfl)))))), ?_⟩
  refine g_start (σ' := [some _, none]) rfl ?_
  obtain ⟨dx, tree, hi, c, us, rfl, hc, hal⟩ := ha
  have hlu := hal.len
  refine g_ret (g_lcT (g_fld (g_v0 (g_fldA (by walk_at "hx") T.c_Mill T.n_told_so (by walk_at "fl") ?_))))
  refine lc_mapT (R := PlAt) (ds := m) (h := fun p => .str p.name) hc hal (by omega) (fun r u H1 e h => h.tx (Tx.ex e)) (fun r hm u H2 e2 hR Y N hY => ?_) (fun D2 H2 nD e2 hD2 => ?_)
  · obtain ⟨d, x, y, rfl, hd, _, _⟩ := hR
    refine g_n1 (And.intro rfl (g_yes (g_iteT (g_op (g_v1 (g_c (g_ixT (by walk_at "hx") (show atI _ _ = some _ from rfl) ?_)))))))
    exact hY _ (Evl.Ex.refl _)
  · exact hq D2 H2 nD e2 (by unfold namesOf; rw [sV_map]; exact hD2)
def sp_Mill_boxes (K : PySem.W.Frag) : Sp := fun vs H Q _ => ∃ (a : Addr) (m : List Pl) (i : Nat) (pl : Pl), vs = [.ref a, .int i] ∧ MiAt K m a H ∧ m[i]? = some pl ∧ ∀ p us H', H p = none → Ex H H' → At H' p (.lst us) → Al PrAt pl.boxes us H' → Q (.ref p) H'
abbrev N_Mill_boxes : List Str := ["self", "place"]
theorem sc_Mill_boxes : FnScope N_Mill_boxes ["self", "place"] (defScope s_Mill_boxes) := ⟨rfl, rfl, rfl, by decide +kernel, rfl, by decide +kernel, by decide +kernel⟩
theorem ok_Mill_boxes (T : TX w K mg)  : Me P w K mg base CX0 (1) (He.ga K "Mill") "boxes" ["self", "place"] (sp_Mill_boxes K) := by
  obtain ⟨fd, F⟩ := T.d_Mill_boxes
  refine mk_me F T.me_Mill_boxes sc_Mill_boxes (fun vs H Q E h => by obtain ⟨_, _, _, _, rfl, _⟩ := h; rfl) (fun _ _ _ _ _ _ us hl => match us, hl with | [_, _], _ => rfl) (fun cdv A outer s H vs Q E hr h => ?_)
  obtain ⟨a, m, i, pl, rfl, ha, hi, hq⟩ := h
  have hu := hu_of hr
  refine ⟨(tRet (tCB (Evl.rListS K) (tCons (tOp (rIxT K) (tOp (rIxT K) (tFld K (tVar 0) "told_so") (tVar 1)) (tC (.int 1))) tNil))),
      (pss_one (ps_ret (pe_callTy cl_list (by rfl) T.b_list bt_list (pa_cons (pe_ix ix_tup (pe_ix ix_tup (pe_fld (pv 0) rfl) (pv 1) (fun _ _ => rfl)) pe_int (fun _ _ => rfl)) pa_nil)))), ?_⟩
  refine g_start (σ' := [some _, some _]) rfl ?_
  obtain ⟨dx, tree, hi0, c, us, rfl, hc, hal⟩ := ha
  obtain ⟨u, hu1, d, x, y, rfl, hd, ⟨c2, us2, rfl, hc2, hal2⟩, _⟩ := hal.at hi
  refine g_ret (g_cb (g_cons (g_op (g_op (g_fld (g_v0 (g_fldA (by walk_at "hx") T.c_Mill T.n_told_so (by walk_at "fl") (g_v1 ?_))))))))
  refine g_ixT hc (at_nat hu1) ?_
  refine g_c (g_ixT (by walk_at "hx") (show atI _ _ = some _ from rfl) (g_nil ?_))
  refine g_listF hc2 (fun p H1 np e1 hp => ?_)
  exact hq p us2 H1 np e1 hp (hal2.imp fun _ _ h => h.tx (Tx.ex e1))
def sp_Mill_rule (K : PySem.W.Frag) : Sp := fun vs H Q _ => ∃ (a : Addr) (m : List Pl) (i : Nat) (pl : Pl) (k : Nm), vs = [.ref a, .int i, .str k] ∧ MiAt K m a H ∧ m[i]? = some pl ∧ pl.rules.length ≤ 1000 ∧ ∀ v H', Ex H H' → TpAt RwAt (ruleOf pl.rules k) v H' → Q v H'
abbrev N_Mill_rule : List Str := ["self", "place", "kind", "name", "rows"]
theorem sc_Mill_rule : FnScope N_Mill_rule ["self", "place", "kind"] (defScope s_Mill_rule) := ⟨rfl, rfl, rfl, by decide +kernel, rfl, by decide +kernel, by decide +kernel⟩
theorem ok_Mill_rule (T : TX w K mg)  : Me P w K mg base CX0 (1) (He.ga K "Mill") "rule" ["self", "place", "kind"] (sp_Mill_rule K) := by
  obtain ⟨fd, F⟩ := T.d_Mill_rule
  refine mk_me F T.me_Mill_rule sc_Mill_rule (fun vs H Q E h => by obtain ⟨_, _, _, _, _, rfl, _⟩ := h; rfl) (fun _ _ _ _ _ _ us hl => match us, hl with | [_, _, _], _ => rfl) (fun cdv A outer s H vs Q E hr h => ?_)
  obtain ⟨a, m, i, pl, k, rfl, ha, hi, hl, hq⟩ := h
  have hu := hu_of hr
  refine ⟨(tSeq (tFor (iTup K (tOp (rIxT K) (tOp (rIxT K) (tFld K (tVar 0) "told_so") (tVar 1)) (tC (.int 2)))) (gTup K 2 (gCons (gName 3) (gCons (gName 4) gNil))) (tIfS (tTest (tOp rEq (tVar 3) (tVar 2))) (tRet (tVar 4)) tNext)) (tRet (tTup tNil))),
      (pss_cons (ps_for PassesOwn.never rfl (pi_tup (pe_ix ix_tup (pe_ix ix_tup (pe_fld (pv 0) rfl) (pv 1) (fun _ _ => rfl)) pe_int (fun _ _ => rfl))) (pg_tup rfl (pgs_cons (pg_name (i := 3) sc_Mill_rule.nd rfl (Or.inl rfl)) (pgs_cons (pg_name (i := 4) sc_Mill_rule.nd rfl (Or.inl rfl)) pgs_nil))) (pss_one (ps_if (pt_cmpR op_eq (pv 3) (pv 2) (nomark _)) (pss_one (ps_ret (pv 4))) pss_nil)))
      (pss_one (ps_ret (pe_tup pa_nil)))), ?_⟩
  refine g_start (σ' := [some _, some _, some _, none, none]) rfl ?_
  obtain ⟨dx, tree, hi0, c, us, rfl, hc, hal⟩ := ha
  obtain ⟨u, hu1, d, x, y, rfl, hd, _, ⟨c2, us2, rfl, hc2, hal2⟩⟩ := hal.at hi
  refine g_seq (g_forT (g_op (g_op (g_fld (g_v0 (g_fldA (by walk_at "hx") T.c_Mill T.n_told_so (by walk_at "fl") (g_v1 ?_)))))))
  refine g_ixT hc (at_nat hu1) ?_
  refine g_c (g_ixT (by walk_at "hx") (show atI _ _ = some _ from rfl) ?_)
  refine fo_T hc2 (fun j σ' H' => (∃ x y, σ' = [some (.ref a), some (.int i), some (.str k), x, y]) ∧ Ex H H' ∧ ∀ q ∈ pl.rules.take j, ¬ q.1 = k) ⟨⟨_, _, rfl⟩, Evl.Ex.refl _, by simp⟩ (fun j σ' H' w => hc2.ex w.2.1) (fun j u σ' H' hj w => ?_) (fun σ' H' w => ?_)
  · obtain ⟨⟨x0, y0, rfl⟩, e1, no⟩ := w
    obtain ⟨q, hq1, hR⟩ := hal2.get hj
    obtain ⟨d2, u2, rfl, hd2, hrw⟩ := hR
    have hd2' := hd2.ex e1
    by_cases e : q.1 = k
    · refine g_gtup (by walk_at "hx") rfl (g_gcons (g_n3 (g_gcons (g_n4 (g_gnil (g_ifs (g_tst (g_op (g_v3 (g_v2 (g_eqS (g_k (g_ifD1 (e) (g_ret (g_v4 ?_)))))))))))))))
      refine hq _ _ e1 ?_
      rw [ruleOf_first hq1 e no]
      exact TpAt.tx (fun x u => RwAt.tx (Tx.ex e1) x u) (Tx.ex e1) hrw
    ·
      refine g_gtup (by walk_at "hx") rfl (g_gcons (g_n3 (g_gcons (g_n4 (g_gnil (g_ifs (g_tst (g_op (g_v3 (g_v2 (g_eqS (g_k (g_ifD0 (e) (g_next ?_))))))))))))))
      refine ⟨⟨_, _, rfl⟩, e1, fun z hz => ?_⟩
      rw [take_at hq1] at hz
      rcases List.mem_append.mp hz with hz | hz
      · exact no z hz
      · simp only [List.mem_singleton] at hz
        exact hz ▸ e
  · obtain ⟨⟨x0, y0, rfl⟩, e1, no⟩ := w
    refine g_ret (g_tup (g_nil ?_))
    refine g_tupN (by simp) (fun p H1 np e2 hp => ?_)
    refine hq _ _ (e1.trans e2) ?_
    rw [hal2.len, List.take_length] at no
    rw [ruleOf_none no]
    exact ⟨p, [], rfl, hp, rfl⟩
end
end PM
/-! part F9 -/
namespace PM
open PySem PySem.Spec PyProof.Rows L2 PMH
open Evl (Ex)

local macro_rules | `(tactic| walk_at "ex") => `(tactic| first
  | with_reducible assumption
  | with_reducible exact Evl.Ex.refl _
  | (refine Evl.Ex.trans ?_ (by with_reducible assumption); walk_at "ex"))
local macro_rules | `(tactic| walk_at "hx") => `(tactic| first
  | with_reducible assumption
  | (refine At.ex (by with_reducible assumption) ?_; walk_at "ex")
  | (refine Fz.tx (by with_reducible assumption) ?_; walk_at "tx")
  | (refine TrAt.ex (by with_reducible assumption) ?_; walk_at "ex")
  | (refine MlAt.tx ?_ (by with_reducible assumption); walk_at "tx")
  | (refine PlAt.tx ?_ (by with_reducible assumption); walk_at "tx")
  | (refine LtAt.tx ?_ (by with_reducible assumption); walk_at "tx")
  | (refine GvAt.tx ?_ (by with_reducible assumption); walk_at "tx")
  | (refine WsAt.tx ?_ (by with_reducible assumption); walk_at "tx")
  | (refine RwAt.tx ?_ _ _ (by with_reducible assumption); walk_at "tx")
  | (refine RwsAt.tx ?_ _ _ (by with_reducible assumption); walk_at "tx")
  | (refine RuAt.tx ?_ (by with_reducible assumption); walk_at "tx")
  | (refine PrAt.tx ?_ (by with_reducible assumption); walk_at "tx"))
local macro_rules | `(tactic| walk_at "num") => `(tactic| first
  | with_reducible assumption
  | decide
  | exact Or.inl ⟨by omega, by omega⟩
  | exact Or.inr ⟨by omega, by omega⟩
  | (refine ⟨?_, ?_⟩ <;> omega)
  | (show (0 : Int) < _; omega))
local macro_rules | `(tactic| walk_at "tx") => `(tactic| first
  | with_reducible assumption
  | (refine Tx.ex ?_; walk_at "ex"))
local macro_rules | `(tactic| walk_at "sz") => `(tactic| first
  | with_reducible assumption
  | omega
  | (refine Evl.sz_of ?_; omega)
  | (refine Evl.sz_lt ?_; omega))
local macro_rules | `(tactic| walk_at "fl") => `(tactic| first
  | rfl
  | decide +kernel)

local macro_rules | `(tactic| walk_at "mi") => `(tactic| first
  | with_reducible assumption
  | (refine MiAt.ex (by with_reducible assumption) ?_; walk_at "ex"))
theorem MlOk.small {m : List Pl} (h : MlOk m) : m.length ≤ 100 := by have := h.most; omega
section
variable {P : Program} {w : World} {K : PySem.W.Frag} {mg : Str → Option Value} {base : Heap}
def sp_number_of (K : PySem.W.Frag) : Sp := fun vs H Q _ => ∃ (a : Addr) (m : List Pl) (i : Nat) (pl : Pl), vs = [.ref a, .str pl.name] ∧ MiAt K m a H ∧ MlOk m ∧ m[i]? = some pl ∧ Ret (.int (i : Nat)) H Q
abbrev N_number_of : List Str := ["mill", "place"]
theorem sc_number_of : FnScope N_number_of ["mill", "place"] (defScope s_number_of) := ⟨rfl, rfl, rfl, by decide +kernel, rfl, by decide +kernel, by decide +kernel⟩
theorem ok_number_of (T : TX w K mg)  : Fn P w K mg base CX0 (2) "number_of" ["mill", "place"] (sp_number_of K) := by
  have f_Mill_places := ok_Mill_places (P := P) (base := base) T
  obtain ⟨fd, F⟩ := T.d_number_of
  refine mk_fn F T.g_number_of sc_number_of (fun vs H Q E h => by obtain ⟨_, _, _, _, rfl, _⟩ := h; rfl) (fun _ _ _ _ _ _ us hl => match us, hl with | [_, _], _ => rfl) (fun cdv A outer s H vs Q E hr h => ?_)
  obtain ⟨a, m, i, pl, rfl, ha, hk, hi, hq⟩ := h
  have hu := hu_of hr
  refine ⟨(tSeq (tIfS (tOr (tNot (tB (tCB (rIsi K) (tCons (tVar 1) (tCons (tC (.ty "str")) tNil))))) (tTest (tOp (rIn K true) (tVar 1) (tMeth (He.ga K "Mill") "places" (sp_Mill_places K) [] E0 (tVar 0) tNil)))) tNever tNext) (tRet (tBM K "list" (rIndex K) (tMeth (He.ga K "Mill") "places" (sp_Mill_places K) [] E0 (tVar 0) tNil) (tCons (tVar 1) tNil)))),
      (pss_cons (ps_if (PW.pt (pw_or (pt_not (pt_val (pe_callB call_isi (by rfl) T.b_isinstance bt_isinstance (pa_cons (pv 1) (pa_cons (pe_bltn (v := .ty "str") (by rfl) T.b_str bt_str rfl) pa_nil))))) (pw_or1 (pt_cmpR op_notIn_seq (pv 1) (f_Mill_places.ex.elim fun _ q => q.elim fun _ q => pe_meth0 (pv 0) T.c_Mill q.2.1 q.1 (hr.mono (by omega)) q.2.2 .nil pass0) (by rfl))))) (pss_one ps_never) pss_nil)
      (pss_one (ps_ret (pe_bm PySem.F.plainAttrs_list PySem.F.slot_list_index PySem.F.type_list_index mt_index (f_Mill_places.ex.elim fun _ q => q.elim fun _ q => pe_meth0 (pv 0) T.c_Mill q.2.1 q.1 (hr.mono (by omega)) q.2.2 .nil pass0) (pa_cons (pv 1) pa_nil))))), ?_⟩
  refine g_start (σ' := [some _, some _]) rfl ?_
  obtain ⟨dx, tree, hins, hm⟩ := id ha
  have hin := names_at hi
  refine g_seq (g_ifs (g_or (g_not (g_tB (g_cb (g_cons (g_v1 (g_cons (g_c (g_nil (g_isStr (g_k (g_iteF (g_tst (g_op (g_v1 (g_meth (g_v0 (g_methA (by walk_at "hx") (by walk_at "fl") (g_nil ?_))))))))))))))))))))
  refine ⟨a, m, rfl, ha, hk.small, fun p H1 np e1 hp => ?_⟩
  refine g_inL1 (b := false) hp.sqL rfl (flat_sV _) (by rw [in_yes (List.mem_of_getElem? hin)]; rfl) ?_
  refine g_k (g_iteF (g_next (g_ret (g_bm (g_meth (g_v0 (g_methA (by walk_at "hx") (by walk_at "fl") (g_nil ?_))))))))
  refine ⟨a, m, rfl, by walk_at "mi", hk.small, fun p2 H2 np2 e2 hp2 => ?_⟩
  refine g_tyL (by walk_at "hx") (g_cons (g_v1 (g_nil ?_)))
  refine g_idxN hp2 hin hk.nd ?_
  exact hq _ (e1.trans e2)
def sp_names_of (K : PySem.W.Frag) : Sp := fun vs H Q _ => ∃ (a : Addr) (m : List Pl) (i : Nat) (pl : Pl), vs = [.ref a, .int (i : Nat)] ∧ MiAt K m a H ∧ m[i]? = some pl ∧ pl.boxes.length ≤ 1000 ∧ ∀ p H', H p = none → Ex H H' → At H' p (.lst (sV (pl.boxes.map (·.1)))) → Q (.ref p) H'
abbrev N_names_of : List Str := ["mill", "number", "name", "first"]
theorem sc_names_of : FnScope N_names_of ["mill", "number"] (defScope s_names_of) := ⟨rfl, rfl, rfl, by decide +kernel, rfl, by decide +kernel, by decide +kernel⟩
theorem ok_names_of (T : TX w K mg)  : Fn P w K mg base CX0 (2) "names_of" ["mill", "number"] (sp_names_of K) := by
  have f_Mill_boxes := ok_Mill_boxes (P := P) (base := base) T
  obtain ⟨fd, F⟩ := T.d_names_of
  refine mk_fn F T.g_names_of sc_names_of (fun vs H Q E h => by obtain ⟨_, _, _, _, rfl, _⟩ := h; rfl) (fun _ _ _ _ _ _ us hl => match us, hl with | [_, _], _ => rfl) (fun cdv A outer s H vs Q E hr h => ?_)
  obtain ⟨a, m, i, pl, rfl, ha, hi, hl, hq⟩ := h
  have hu := hu_of hr
  refine ⟨(tRet (tLc (iList K (tMeth (He.ga K "Mill") "boxes" (sp_Mill_boxes K) [] E0 (tVar 0) (tCons (tVar 1) tNil))) (gTup K 2 (gCons (gName 2) (gCons (gName 3) gNil))) tYes (tVar 2) [2, 3])),
      (pss_one (ps_ret (pe_lc (own := [("name", 2), ("first", 3)]) (wi := (iList K (tMeth (He.ga K "Mill") "boxes" (sp_Mill_boxes K) [] E0 (tVar 0) (tCons (tVar 1) tNil)))) (g := (gTup K 2 (gCons (gName 2) (gCons (gName 3) gNil)))) (tt := tYes) (te := (tVar 2)) rfl sc_names_of.nd (pi_list (f_Mill_boxes.ex.elim fun _ q => q.elim fun _ q => pe_meth (pv 0) T.c_Mill q.2.1 q.1 (hr.mono (by omega)) q.2.2 .nil pass0 (pa_cons (pv 1) pa_nil))) (blkOk_by (N := N_names_of) (sc := defScope s_names_of) (by decide +kernel)) (fun _ _ _ _ _ => (pg_tup rfl (pgs_cons (pg_name (i := 2) sc_names_of.nd rfl (Or.inl rfl)) (pgs_cons (pg_name (i := 3) sc_names_of.nd rfl (Or.inl rfl)) pgs_nil)))) (fun _ _ _ _ _ => pts_nil) (fun _ _ _ _ _ => (pv 2))))), ?_⟩
  refine g_start (σ' := [some _, some _, none, none]) rfl ?_
  obtain ⟨dx, tree, hins, hm⟩ := id ha
  refine g_ret (g_lcL (g_meth (g_v0 (g_methA (by walk_at "hx") (by walk_at "fl") (g_cons (g_v1 (g_nil ?_)))))))
  refine ⟨a, m, i, pl, rfl, ha, hi, fun p us H1 np e1 hp hal => ?_⟩
  refine lc_mapL (R := PrAt) (ds := pl.boxes) (h := fun p => .str p.1) hp hal (by omega) (fun r u H1 e h => h.tx (Tx.ex e)) (fun q hm4 u H4 e4 hR4 Y4 N4 hY4 => ?_) (fun D4 H4 n4 e4 hD4 => ?_)
  · obtain ⟨d4, rfl, hd4⟩ := hR4
    refine g_gtup (by walk_at "hx") rfl (g_gcons (g_n2 (g_gcons (g_n3 (g_gnil (And.intro rfl (g_yes (g_iteT (g_v2 ?_)))))))))
    exact hY4 _ (Evl.Ex.refl _)
  · exact hq D4 H4 (fresh_back e1 n4) (e1.trans e4) (by rw [sV_map]; exact hD4)
def WsOk (m : List Pl) (ws : Nm × Tr) : Prop := ∃ (i : Nat) (pl : Pl), m[i]? = some pl ∧ pl.name = ws.1 ∧ TrOk (pl.boxes.map (·.1)) ws.2
def sp_need_wish (K : PySem.W.Frag) : Sp := fun vs H Q _ => ∃ (a : Addr) (m : List Pl) (v : V) (ws : Nm × Tr), vs = [.ref a, v] ∧ MiAt K m a H ∧ MlOk m ∧ WsAt ws v H ∧ WsOk m ws ∧ Ret .non H Q
abbrev N_need_wish : List Str := ["mill", "wish", "names", "name"]
theorem sc_need_wish : FnScope N_need_wish ["mill", "wish"] (defScope s_need_wish) := ⟨rfl, rfl, rfl, by decide +kernel, rfl, by decide +kernel, by decide +kernel⟩
theorem ok_need_wish (T : TX w K mg)  : Fn P w K mg base CX0 (7) "need_wish" ["mill", "wish"] (sp_need_wish K) := by
  have f_is_tree := ok_is_tree (P := P) (base := base) T
  have f_number_of := ok_number_of (P := P) (base := base) T
  have f_names_of := ok_names_of (P := P) (base := base) T
  have f_names_in := ok_names_in (P := P) (base := base) T
  obtain ⟨fd, F⟩ := T.d_need_wish
  refine mk_fn F T.g_need_wish sc_need_wish (fun vs H Q E h => by obtain ⟨_, _, _, _, rfl, _⟩ := h; rfl) (fun _ _ _ _ _ _ us hl => match us, hl with | [_, _], _ => rfl) (fun cdv A outer s H vs Q E hr h => ?_)
  obtain ⟨a, m, v, ws, rfl, ha, hk, hw, hok, hq⟩ := h
  have hu := hu_of hr
  refine ⟨(tSeq (tIfS (tOr (tNot (tB (tCB (rIsi K) (tCons (tVar 1) (tCons (tC (.ty "tuple")) tNil))))) (tOr (tTest (tOp rNe (tCB (Evl.rLenS K) (tCons (tVar 1) tNil)) (tC (.int 2)))) (tNot (tB (tCall sp_is_tree [] E0 (tCons (tOp (rIxT K) (tVar 1) (tC (.int 1))) tNil)))))) tNever tNext) (tSeq (tAsg (tCall (sp_names_of K) [] E0 (tCons (tVar 0) (tCons (tCall (sp_number_of K) [] E0 (tCons (tVar 0) (tCons (tOp (rIxT K) (tVar 1) (tC (.int 0))) tNil))) tNil))) (gName 2)) (tIfS (tNot (tB (tCB (rAll K) (tCons (tLc (iList K (tCall sp_names_in [] E0 (tCons (tOp (rIxT K) (tVar 1) (tC (.int 1))) tNil))) (gName 3) tYes (tOp (rIn K false) (tVar 3) (tVar 2)) [3]) tNil)))) tNever tNext))),
      (pss_cons (ps_if (PW.pt (pw_or (pt_not (pt_val (pe_callB call_isi (by rfl) T.b_isinstance bt_isinstance (pa_cons (pv 1) (pa_cons (pe_bltn (v := .ty "tuple") (by rfl) T.b_tuple bt_tuple rfl) pa_nil))))) (pw_or (pt_cmpR op_ne (pe_callB cl_len (by rfl) T.b_len bt_len (pa_cons (pv 1) pa_nil)) pe_int (nomark _)) (pw_or1 (pt_not (pt_val (f_is_tree.ex.elim fun _ q => q.elim fun _ q => pe_call q.1 (hr.mono (by omega)) (by rfl) q.2.1 q.2.2.1 q.2.2.2 .nil pass0 (pa_cons (pe_ix ix_tup (pv 1) pe_int (fun _ _ => rfl)) pa_nil)))))))) (pss_one ps_never) pss_nil)
      (pss_cons (ps_set (i := 2) sc_need_wish.nd rfl (Or.inr rfl) (f_names_of.ex.elim fun _ q => q.elim fun _ q => pe_call q.1 (hr.mono (by omega)) (by rfl) q.2.1 q.2.2.1 q.2.2.2 .nil pass0 (pa_cons (pv 0) (pa_cons (f_number_of.ex.elim fun _ q => q.elim fun _ q => pe_call q.1 (hr.mono (by omega)) (by rfl) q.2.1 q.2.2.1 q.2.2.2 .nil pass0 (pa_cons (pv 0) (pa_cons (pe_ix ix_tup (pv 1) pe_int (fun _ _ => rfl)) pa_nil))) pa_nil))))
      (pss_one (ps_if (pt_not (pt_val (pe_callB (cr_all rfl) (by rfl) T.b_all bt_all (pa_cons (pe_lc (own := [("name", 3)]) (wi := (iList K (tCall sp_names_in [] E0 (tCons (tOp (rIxT K) (tVar 1) (tC (.int 1))) tNil)))) (g := (gName 3)) (tt := tYes) (te := (tOp (rIn K false) (tVar 3) (tVar 2))) rfl sc_need_wish.nd (pi_list (f_names_in.ex.elim fun _ q => q.elim fun _ q => pe_call q.1 (hr.mono (by omega)) (by rfl) q.2.1 q.2.2.1 q.2.2.2 .nil pass0 (pa_cons (pe_ix ix_tup (pv 1) pe_int (fun _ _ => rfl)) pa_nil))) (blkOk_by (N := N_need_wish) (sc := defScope s_need_wish) (by decide +kernel)) (fun _ _ _ _ _ => (pg_name (i := 3) sc_need_wish.nd rfl (Or.inl rfl))) (fun _ _ _ _ _ => pts_nil) (fun _ _ _ _ _ => (pe_cmpR op_in_seq (pv 3) (pv 2) (by rfl)))) pa_nil)))) (pss_one ps_never) pss_nil)))), ?_⟩
  refine g_start (σ' := [some _, some _, none, none]) rfl ?_
  obtain ⟨c, u, rfl, hc, hu1⟩ := hw
  obtain ⟨i, pl, hi, en, hok⟩ := hok
  have hp := hk.pl pl (List.mem_of_getElem? hi)
  refine g_seq (g_ifs (g_or (g_not (g_tB (g_cb (g_cons (g_v1 (g_cons (g_c (g_nil (g_isTup (by walk_at "hx") (g_k (g_iteF (g_or (g_tst (g_op (g_cb (g_cons (g_v1 (g_nil (g_lnT (by walk_at "hx") (g_c (g_neI (g_k (g_ifN0 (by simp) (g_not (g_tB (g_call (g_cons (g_op (g_v1 (g_c (g_ixT (by walk_at "hx") (show atI _ _ = some _ from rfl) (g_nil ?_))))))))))))))))))))))))))))))))))
  refine ⟨ws.2, u, _, rfl, hu1, hok, hp.bnames, fun H1 e1 => ?_⟩
  refine g_k (g_iteF (g_next (g_seq (g_asg (g_call (g_cons (g_v0 (g_cons (g_call (g_cons (g_v0 (g_cons (g_op (g_v1 (g_c (g_ixT (by walk_at "hx") (show atI _ _ = some _ from rfl) (g_nil ?_)))))))))))))))))
  refine ⟨a, m, i, pl, by rw [en], by walk_at "mi", hk, hi, fun H2 e2 => ?_⟩
  have e12 := e1.trans e2
  refine g_nil ?_
  refine ⟨a, m, i, pl, rfl, by walk_at "mi", hi, by have := hp.few; omega, fun p H3 np e3 hl3 => ?_⟩
  have e13 := e12.trans e3
  refine g_n2 (g_ifs (g_not (g_tB (g_cb (g_cons (g_lcL (g_call (g_cons (g_op (g_v1 (g_c (g_ixT (by walk_at "hx") (show atI _ _ = some _ from rfl) (g_nil ?_)))))))))))))
  refine ⟨ws.2, u, _, rfl, hu1.ex e13, hok.1, hok.2.1, hok.2.2, fun p4 H4 ys e4 hp4 hys hlen => ?_⟩
  refine lc_mapL (R := fun z u _ => u = V.str z) (ds := ys) (h := fun _ => .bl true) hp4 (al_eq ys) (by omega) (fun _ _ _ _ r => r) (fun z hm5 u H5 e5 hR Y N hY => ?_) (fun D H5 _ e5 hD => ?_)
  · subst hR
    refine g_n3 (And.intro rfl (g_yes (g_iteT (g_op (g_v3 (g_v2 ?_))))))
    refine g_inL0 (b := true) (At.sqL (by walk_at "hx")) rfl (flat_sV _) (in_yes (hys z hm5)) ?_
    exact hY _ (Evl.Ex.refl _)
  ·
    refine g_nil ?_
    refine g_allT hD (all_yes _) ?_
    refine g_k (g_iteF (g_next ?_))
    exact hq _ (e13.trans (e4.trans e5))
def sp_is_given (K : PySem.W.Frag) : Sp := fun vs H Q _ => ∃ (a : Addr) (m : List Pl) (v : V) (g : Gv), vs = [.ref a, v] ∧ MiAt K m a H ∧ MlOk m ∧ GvAt g v H ∧ GvOk m g ∧ Ret (.bl true) H Q
abbrev N_is_given : List Str := ["mill", "thing", "time", "place", "kind", "load"]
theorem sc_is_given : FnScope N_is_given ["mill", "thing"] (defScope s_is_given) := ⟨rfl, rfl, rfl, by decide +kernel, rfl, by decide +kernel, by decide +kernel⟩
theorem ok_is_given (T : TX w K mg)  : Fn P w K mg base CX0 (2) "is_given" ["mill", "thing"] (sp_is_given K) := by
  have f_is_whole_plain := ok_is_whole_plain (P := P) (base := base) T
  have f_is_name := ok_is_name (P := P) (base := base) T
  have f_Mill_places := ok_Mill_places (P := P) (base := base) T
  obtain ⟨fd, F⟩ := T.d_is_given
  refine mk_fn F T.g_is_given sc_is_given (fun vs H Q E h => by obtain ⟨_, _, _, _, rfl, _⟩ := h; rfl) (fun _ _ _ _ _ _ us hl => match us, hl with | [_, _], _ => rfl) (fun cdv A outer s H vs Q E hr h => ?_)
  obtain ⟨a, m, v, g, rfl, ha, hk, hg, hok, hq⟩ := h
  have hu := hu_of hr
  refine ⟨(tSeq (tIfS (tOr (tNot (tB (tCB (rIsi K) (tCons (tVar 1) (tCons (tC (.ty "tuple")) tNil))))) (tTest (tOp rNe (tCB (Evl.rLenS K) (tCons (tVar 1) tNil)) (tC (.int 4))))) (tRet (tC (.bl false))) tNext) (tSeq (tAsg (tVar 1) (gTup K 4 (gCons (gName 2) (gCons (gName 3) (gCons (gName 4) (gCons (gName 5) gNil)))))) (tSeq (tIfS (tOr (tNot (tB (tCall sp_is_whole_plain [] E0 (tCons (tVar 2) tNil)))) (tOr (tNot (tTest (tChain rLeI rLeI (tC (.int 0)) (tVar 2) (tC (.int 1000000000))))) (tOr (tNot (tB (tCall sp_is_name [] E0 (tCons (tVar 3) tNil)))) (tNot (tB (tCall sp_is_name [] E0 (tCons (tVar 4) tNil))))))) (tRet (tC (.bl false))) tNext) (tRet (tAndV (tOp (rIn K false) (tVar 3) (tMeth (He.ga K "Mill") "places" (sp_Mill_places K) [] E0 (tVar 0) tNil)) (tAndV (tCall sp_is_whole_plain [] E0 (tCons (tVar 5) tNil)) (tChain rLeI rLeI (tC (.int 0)) (tVar 5) (tC (.int 99))))))))),
      (pss_cons (ps_if (PW.pt (pw_or (pt_not (pt_val (pe_callB call_isi (by rfl) T.b_isinstance bt_isinstance (pa_cons (pv 1) (pa_cons (pe_bltn (v := .ty "tuple") (by rfl) T.b_tuple bt_tuple rfl) pa_nil))))) (pw_or1 (pt_cmpR op_ne (pe_callB cl_len (by rfl) T.b_len bt_len (pa_cons (pv 1) pa_nil)) pe_int (nomark _))))) (pss_one (ps_ret pe_bl)) pss_nil)
      (pss_cons (ps_asg (pv 1) (pg_tup rfl (pgs_cons (pg_name (i := 2) sc_is_given.nd rfl (Or.inl rfl)) (pgs_cons (pg_name (i := 3) sc_is_given.nd rfl (Or.inl rfl)) (pgs_cons (pg_name (i := 4) sc_is_given.nd rfl (Or.inl rfl)) (pgs_cons (pg_name (i := 5) sc_is_given.nd rfl (Or.inl rfl)) pgs_nil))))))
      (pss_cons (ps_if (PW.pt (pw_or (pt_not (pt_val (f_is_whole_plain.ex.elim fun _ q => q.elim fun _ q => pe_call q.1 (hr.mono (by omega)) (by rfl) q.2.1 q.2.2.1 q.2.2.2 .nil pass0 (pa_cons (pv 2) pa_nil)))) (pw_or (pt_not (pt_chain op_le op_le pe_int (pv 2) (pe_gint (by rfl) T.k_MOST_TIME))) (pw_or (pt_not (pt_val (f_is_name.ex.elim fun _ q => q.elim fun _ q => pe_call q.1 (hr.mono (by omega)) (by rfl) q.2.1 q.2.2.1 q.2.2.2 .nil pass0 (pa_cons (pv 3) pa_nil)))) (pw_or1 (pt_not (pt_val (f_is_name.ex.elim fun _ q => q.elim fun _ q => pe_call q.1 (hr.mono (by omega)) (by rfl) q.2.1 q.2.2.1 q.2.2.2 .nil pass0 (pa_cons (pv 4) pa_nil))))))))) (pss_one (ps_ret pe_bl)) pss_nil)
      (pss_one (ps_ret (pe_and (pe_cmpR op_in_seq (pv 3) (f_Mill_places.ex.elim fun _ q => q.elim fun _ q => pe_meth0 (pv 0) T.c_Mill q.2.1 q.1 (hr.mono (by omega)) q.2.2 .nil pass0) (by rfl)) (pe_and (f_is_whole_plain.ex.elim fun _ q => q.elim fun _ q => pe_call q.1 (hr.mono (by omega)) (by rfl) q.2.1 q.2.2.1 q.2.2.2 .nil pass0 (pa_cons (pv 5) pa_nil)) (pe_one (pe_chain op_le op_le pe_int (pv 5) (pe_gint (by rfl) T.k_MOST_NUMBER)))))))))), ?_⟩
  refine g_start (σ' := [some _, some _, none, none, none, none]) rfl ?_
  obtain ⟨c, rfl, hc⟩ := hg
  obtain ⟨dx, tree, hins, hm⟩ := id ha
  obtain ⟨i, pl, hi, en⟩ := names_mem hok.place
  have hp := hk.pl pl (List.mem_of_getElem? hi)
  refine g_seq (g_ifs (g_or (g_not (g_tB (g_cb (g_cons (g_v1 (g_cons (g_c (g_nil (g_isTup (by walk_at "hx") (g_k (g_iteF (g_tst (g_op (g_cb (g_cons (g_v1 (g_nil (g_lnT (by walk_at "hx") (g_c (g_neI (g_k (g_ifN0 (by simp) (g_next (g_seq (g_asg (g_v1 (g_gtup (by walk_at "hx") rfl (g_gcons (g_n2 (g_gcons (g_n3 (g_gcons (g_n4 (g_gcons (g_n5 (g_gnil (g_seq (g_ifs (g_or (g_not (g_tB (g_call (g_cons (g_v2 (g_nil ?_)))))))))))))))))))))))))))))))))))))))))))))))
  refine ⟨g.time, rfl, ?_⟩
  refine g_k (g_iteF (g_or (g_not (g_tst (g_chain (g_c (g_v2 (g_I0 (g_k (g_ifD1 (hok.t0) (g_c (g_I0 (g_k (g_ifN0 (by have := hok.t1; omega) (g_or (g_not (g_tB (g_call (g_cons (g_v3 (g_nil ?_)))))))))))))))))))))
  refine ⟨g.place, rfl, by rw [← en]; exact nmsP_nms hp.name, ?_⟩
  refine g_k (g_iteF (g_not (g_tB (g_call (g_cons (g_v4 (g_nil ?_)))))))
  refine ⟨g.kind, rfl, kinds_nms hok.kind, ?_⟩
  refine g_k (g_iteF (g_next (g_ret (g_andV (g_op (g_v3 (g_meth (g_v0 (g_methA (by walk_at "hx") (by walk_at "fl") (g_nil ?_))))))))))
  refine ⟨a, m, rfl, ha, hk.small, fun p H1 np e1 hp1 => ?_⟩
  refine g_inL0 (b := true) hp1.sqL rfl (flat_sV _) (in_yes hok.place) ?_
  refine g_k (g_iteT (g_andV (g_call (g_cons (g_v5 (g_nil ?_))))))
  refine ⟨g.load, rfl, ?_⟩
  refine g_k (g_iteT (g_chain (g_c (g_v5 (g_I0 (g_k (g_ifD1 (hok.l0) (g_c (g_I0 ?_)))))))))
  have e : decide (g.load ≤ 99) = true := decide_eq_true (by have := hok.l1; omega)
  show Q (.bl (decide (g.load ≤ 99))) H1
  rw [e]
  exact hq _ e1
end
end PM
/-! part F10 -/
namespace PM
open PySem PySem.Spec PyProof.Rows L2 PMH
open Evl (Ex)

local macro_rules | `(tactic| walk_at "ex") => `(tactic| first
  | with_reducible assumption
  | with_reducible exact Evl.Ex.refl _
  | (refine Evl.Ex.trans ?_ (by with_reducible assumption); walk_at "ex"))
local macro_rules | `(tactic| walk_at "hx") => `(tactic| first
  | with_reducible assumption
  | (refine At.ex (by with_reducible assumption) ?_; walk_at "ex")
  | (refine Fz.tx (by with_reducible assumption) ?_; walk_at "tx")
  | (refine TrAt.ex (by with_reducible assumption) ?_; walk_at "ex")
  | (refine MlAt.tx ?_ (by with_reducible assumption); walk_at "tx")
  | (refine PlAt.tx ?_ (by with_reducible assumption); walk_at "tx")
  | (refine LtAt.tx ?_ (by with_reducible assumption); walk_at "tx")
  | (refine GvAt.tx ?_ (by with_reducible assumption); walk_at "tx")
  | (refine WsAt.tx ?_ (by with_reducible assumption); walk_at "tx")
  | (refine RwAt.tx ?_ _ _ (by with_reducible assumption); walk_at "tx")
  | (refine RwsAt.tx ?_ _ _ (by with_reducible assumption); walk_at "tx")
  | (refine RuAt.tx ?_ (by with_reducible assumption); walk_at "tx")
  | (refine PrAt.tx ?_ (by with_reducible assumption); walk_at "tx"))
local macro_rules | `(tactic| walk_at "num") => `(tactic| first
  | with_reducible assumption
  | decide
  | exact Or.inl ⟨by omega, by omega⟩
  | exact Or.inr ⟨by omega, by omega⟩
  | (refine ⟨?_, ?_⟩ <;> omega)
  | (show (0 : Int) < _; omega))
local macro_rules | `(tactic| walk_at "tx") => `(tactic| first
  | with_reducible assumption
  | (refine Tx.ex ?_; walk_at "ex"))
local macro_rules | `(tactic| walk_at "sz") => `(tactic| first
  | with_reducible assumption
  | omega
  | (refine Evl.sz_of ?_; omega)
  | (refine Evl.sz_lt ?_; omega))
local macro_rules | `(tactic| walk_at "fl") => `(tactic| first
  | rfl
  | decide +kernel)

local macro_rules | `(tactic| walk_at "mi") => `(tactic| first
  | with_reducible assumption
  | (refine MiAt.ex (by with_reducible assumption) ?_; walk_at "ex"))
/-- what is given, in a list or a tuple -/
structure GsAt (m : List Pl) (gs : List Gv) (us : List V) (g : Addr) (H : Hp) : Prop where
  sq : SqAt us g H
  al : Al GvAt gs us H
  ok : ∀ x ∈ gs, GvOk m x
  few : gs.length ≤ 8
theorem GsAt.ex {m : List Pl} {gs : List Gv} {us : List V} {g : Addr} {H H' : Hp} (h : GsAt m gs us g H) (e : Ex H H') : GsAt m gs us g H' := ⟨h.sq.ex e, h.al.imp fun _ _ q => q.tx (Tx.ex e), h.ok, h.few⟩
section
variable {P : Program} {w : World} {K : PySem.W.Frag} {mg : Str → Option Value} {base : Heap}
def sp_need_given (K : PySem.W.Frag) : Sp := fun vs H Q _ => ∃ (a g : Addr) (m : List Pl) (gs : List Gv) (us : List V), vs = [.ref a, .ref g] ∧ MiAt K m a H ∧ MlOk m ∧ GsAt m gs us g H ∧ Ret .non H Q
abbrev N_need_given : List Str := ["mill", "given", "one"]
theorem sc_need_given : FnScope N_need_given ["mill", "given"] (defScope s_need_given) := ⟨rfl, rfl, rfl, by decide +kernel, rfl, by decide +kernel, by decide +kernel⟩
theorem ok_need_given (T : TX w K mg)  : Fn P w K mg base CX0 (3) "need_given" ["mill", "given"] (sp_need_given K) := by
  have f_is_given := ok_is_given (P := P) (base := base) T
  obtain ⟨fd, F⟩ := T.d_need_given
  refine mk_fn F T.g_need_given sc_need_given (fun vs H Q E h => by obtain ⟨_, _, _, _, _, rfl, _⟩ := h; rfl) (fun _ _ _ _ _ _ us hl => match us, hl with | [_, _], _ => rfl) (fun cdv A outer s H vs Q E hr h => ?_)
  obtain ⟨a, g, m, gs, us, rfl, ha, hk, hg, hq⟩ := h
  have hu := hu_of hr
  obtain ⟨hsq, hal, hok, hfew⟩ := hg
  have hlu := hal.len
  rcases hsq with hsq | hsq
  · refine ⟨(tSeq (tIfS (tOr (tNot (tB (tCB (rIsiT K) (tCons (tVar 1) (tCons (tTup (tCons (tC (.ty "list")) (tCons (tC (.ty "tuple")) tNil))) tNil))))) (tTest (tOp rGtI (tCB (Evl.rLenS K) (tCons (tVar 1) tNil)) (tC (.int 40))))) tNever tNext) (tIfS (tNot (tB (tCB (rAll K) (tCons (tLc (iList K (tVar 1)) (gName 2) tYes (tCall (sp_is_given K) [] E0 (tCons (tVar 0) (tCons (tVar 2) tNil))) [2]) tNil)))) tNever tNext)),
    (pss_cons (ps_if (PW.pt (pw_or (pt_not (pt_val (pe_callB call_isiT (by rfl) T.b_isinstance bt_isinstance (pa_cons (pv 1) (pa_cons (pe_tup (pa_cons (pe_bltn (v := .ty "list") (by rfl) T.b_list bt_list rfl) (pa_cons (pe_bltn (v := .ty "tuple") (by rfl) T.b_tuple bt_tuple rfl) pa_nil))) pa_nil))))) (pw_or1 (pt_cmpR op_gt (pe_callB cl_len (by rfl) T.b_len bt_len (pa_cons (pv 1) pa_nil)) (pe_gint (by rfl) T.k_MOST_GIVEN) (nomark _))))) (pss_one ps_never) pss_nil)
      (pss_one (ps_if (pt_not (pt_val (pe_callB (cr_all rfl) (by rfl) T.b_all bt_all (pa_cons (pe_lc (own := [("one", 2)]) (wi := (iList K (tVar 1))) (g := (gName 2)) (tt := tYes) (te := (tCall (sp_is_given K) [] E0 (tCons (tVar 0) (tCons (tVar 2) tNil)))) rfl sc_need_given.nd (pi_list (pv 1)) (blkOk_by (N := N_need_given) (sc := defScope s_need_given) (by decide +kernel)) (fun _ _ _ _ _ => (pg_name (i := 2) sc_need_given.nd rfl (Or.inl rfl))) (fun _ _ _ _ _ => pts_nil) (fun _ _ _ _ _ => (f_is_given.ex.elim fun _ q => q.elim fun _ q => pe_call q.1 (hr.mono (by omega)) (by rfl) q.2.1 q.2.2.1 q.2.2.2 .nil pass0 (pa_cons (pv 0) (pa_cons (pv 2) pa_nil))))) pa_nil)))) (pss_one ps_never) pss_nil))), ?_⟩
    refine g_start (σ' := [some _, some _, none]) rfl ?_
    refine g_seq (g_ifs (g_or (g_not (g_tB (g_cb (g_cons (g_v1 (g_cons (g_tup (g_cons (g_c (g_cons (g_c (g_nil ?_))))))))))))))
    refine g_tupN (by simp) (fun tp H1 n1 e1 htp => ?_)
    refine g_nil ?_
    refine g_isiLT (.inl (hsq.ex e1)) htp ?_
    refine g_k (g_iteF (g_tst (g_op (g_cb (g_cons (g_v1 (g_nil ?_)))))))
    refine g_lnX (.inl (hsq.ex e1)) ?_
    refine g_c (g_I0 (g_k (g_ifD0 (by omega) (g_next (g_ifs (g_not (g_tB (g_cb (g_cons (g_lcL (g_v1 ?_)))))))))))
    refine lc_mapL (R := GvAt) (ds := gs) (h := fun _ => .bl true) (hsq.ex e1) (hal.imp fun r u h => h.tx (Tx.ex e1)) (by omega) (fun r u H1 e h => h.tx (Tx.ex e)) (fun r hm u H2 e2 hR Y N hY => ?_) (fun D H2 _ e2 hD => ?_)
    ·
      refine g_n2 (And.intro rfl (g_yes (g_iteT (g_call (g_cons (g_v0 (g_cons (g_v2 (g_nil ?_)))))))))
      exact ⟨a, m, u, r, rfl, by walk_at "mi", hk, hR, hok r hm, fun H4 e4 => hY H4 e4⟩
    ·
      refine g_nil ?_
      refine g_allT hD (all_yes _) ?_
      refine g_k (g_iteF (g_next ?_))
      exact hq _ (e1.trans e2)
  · refine ⟨(tSeq (tIfS (tOr (tNot (tB (tCB (rIsiT K) (tCons (tVar 1) (tCons (tTup (tCons (tC (.ty "list")) (tCons (tC (.ty "tuple")) tNil))) tNil))))) (tTest (tOp rGtI (tCB (Evl.rLenS K) (tCons (tVar 1) tNil)) (tC (.int 40))))) tNever tNext) (tIfS (tNot (tB (tCB (rAll K) (tCons (tLc (iTup K (tVar 1)) (gName 2) tYes (tCall (sp_is_given K) [] E0 (tCons (tVar 0) (tCons (tVar 2) tNil))) [2]) tNil)))) tNever tNext)),
    (pss_cons (ps_if (PW.pt (pw_or (pt_not (pt_val (pe_callB call_isiT (by rfl) T.b_isinstance bt_isinstance (pa_cons (pv 1) (pa_cons (pe_tup (pa_cons (pe_bltn (v := .ty "list") (by rfl) T.b_list bt_list rfl) (pa_cons (pe_bltn (v := .ty "tuple") (by rfl) T.b_tuple bt_tuple rfl) pa_nil))) pa_nil))))) (pw_or1 (pt_cmpR op_gt (pe_callB cl_len (by rfl) T.b_len bt_len (pa_cons (pv 1) pa_nil)) (pe_gint (by rfl) T.k_MOST_GIVEN) (nomark _))))) (pss_one ps_never) pss_nil)
      (pss_one (ps_if (pt_not (pt_val (pe_callB (cr_all rfl) (by rfl) T.b_all bt_all (pa_cons (pe_lc (own := [("one", 2)]) (wi := (iTup K (tVar 1))) (g := (gName 2)) (tt := tYes) (te := (tCall (sp_is_given K) [] E0 (tCons (tVar 0) (tCons (tVar 2) tNil)))) rfl sc_need_given.nd (pi_tup (pv 1)) (blkOk_by (N := N_need_given) (sc := defScope s_need_given) (by decide +kernel)) (fun _ _ _ _ _ => (pg_name (i := 2) sc_need_given.nd rfl (Or.inl rfl))) (fun _ _ _ _ _ => pts_nil) (fun _ _ _ _ _ => (f_is_given.ex.elim fun _ q => q.elim fun _ q => pe_call q.1 (hr.mono (by omega)) (by rfl) q.2.1 q.2.2.1 q.2.2.2 .nil pass0 (pa_cons (pv 0) (pa_cons (pv 2) pa_nil))))) pa_nil)))) (pss_one ps_never) pss_nil))), ?_⟩
    refine g_start (σ' := [some _, some _, none]) rfl ?_
    refine g_seq (g_ifs (g_or (g_not (g_tB (g_cb (g_cons (g_v1 (g_cons (g_tup (g_cons (g_c (g_cons (g_c (g_nil ?_))))))))))))))
    refine g_tupN (by simp) (fun tp H1 n1 e1 htp => ?_)
    refine g_nil ?_
    refine g_isiLT (.inr (hsq.ex e1)) htp ?_
    refine g_k (g_iteF (g_tst (g_op (g_cb (g_cons (g_v1 (g_nil ?_)))))))
    refine g_lnX (.inr (hsq.ex e1)) ?_
    refine g_c (g_I0 (g_k (g_ifD0 (by omega) (g_next (g_ifs (g_not (g_tB (g_cb (g_cons (g_lcT (g_v1 ?_)))))))))))
    refine lc_mapT (R := GvAt) (ds := gs) (h := fun _ => .bl true) (hsq.ex e1) (hal.imp fun r u h => h.tx (Tx.ex e1)) (by omega) (fun r u H1 e h => h.tx (Tx.ex e)) (fun r hm u H2 e2 hR Y N hY => ?_) (fun D H2 _ e2 hD => ?_)
    ·
      refine g_n2 (And.intro rfl (g_yes (g_iteT (g_call (g_cons (g_v0 (g_cons (g_v2 (g_nil ?_)))))))))
      exact ⟨a, m, u, r, rfl, by walk_at "mi", hk, hR, hok r hm, fun H4 e4 => hY H4 e4⟩
    ·
      refine g_nil ?_
      refine g_allT hD (all_yes _) ?_
      refine g_k (g_iteF (g_next ?_))
      exact hq _ (e1.trans e2)
def sp_need_asked (K : PySem.W.Frag) : Sp := fun vs H Q _ => ∃ (a g : Addr) (m : List Pl) (gs : List Gv) (us : List V) (v : V) (ws : Nm × Tr), vs = [.ref a, .ref g, v] ∧ MiAt K m a H ∧ MlOk m ∧ GsAt m gs us g H ∧ WsAt ws v H ∧ WsOk m ws ∧ Ret .non H Q
abbrev N_need_asked : List Str := ["mill", "given", "wish"]
theorem sc_need_asked : FnScope N_need_asked ["mill", "given", "wish"] (defScope s_need_asked) := ⟨rfl, rfl, rfl, by decide +kernel, rfl, by decide +kernel, by decide +kernel⟩
theorem ok_need_asked (T : TX w K mg)  : Fn P w K mg base CX0 (8) "need_asked" ["mill", "given", "wish"] (sp_need_asked K) := by
  have f_need_given := ok_need_given (P := P) (base := base) T
  have f_need_wish := ok_need_wish (P := P) (base := base) T
  obtain ⟨fd, F⟩ := T.d_need_asked
  refine mk_fn F T.g_need_asked sc_need_asked (fun vs H Q E h => by obtain ⟨_, _, _, _, _, _, _, rfl, _⟩ := h; rfl) (fun _ _ _ _ _ _ us hl => match us, hl with | [_, _, _], _ => rfl) (fun cdv A outer s H vs Q E hr h => ?_)
  obtain ⟨a, g, m, gs, us, v, ws, rfl, ha, hk, hg, hw, hok, hq⟩ := h
  have hu := hu_of hr
  refine ⟨(tSeq (tDrop (tCall (sp_need_given K) [] E0 (tCons (tVar 0) (tCons (tVar 1) tNil)))) (tDrop (tCall (sp_need_wish K) [] E0 (tCons (tVar 0) (tCons (tVar 2) tNil))))),
      (pss_cons (ps_expr (f_need_given.ex.elim fun _ q => q.elim fun _ q => pe_call q.1 (hr.mono (by omega)) (by rfl) q.2.1 q.2.2.1 q.2.2.2 .nil pass0 (pa_cons (pv 0) (pa_cons (pv 1) pa_nil))))
      (pss_one (ps_expr (f_need_wish.ex.elim fun _ q => q.elim fun _ q => pe_call q.1 (hr.mono (by omega)) (by rfl) q.2.1 q.2.2.1 q.2.2.2 .nil pass0 (pa_cons (pv 0) (pa_cons (pv 2) pa_nil)))))), ?_⟩
  refine g_start (σ' := [some _, some _, some _]) rfl ?_
  refine g_seq (g_drop (g_call (g_cons (g_v0 (g_cons (g_v1 (g_nil ?_)))))))
  refine ⟨a, g, m, gs, us, rfl, ha, hk, hg, fun H1 e1 => ?_⟩
  refine g_drop (g_call (g_cons (g_v0 (g_cons (g_v2 (g_nil ?_))))))
  exact ⟨a, m, v, ws, rfl, by walk_at "mi", hk, hw.tx (Tx.ex e1), hok, fun H2 e2 => hq _ (e1.trans e2)⟩
end
end PM
/-! part F11 -/
namespace PM
open PySem PySem.Spec PyProof.Rows L2 PMH
open Evl (Ex)

local macro_rules | `(tactic| walk_at "ex") => `(tactic| first
  | with_reducible assumption
  | with_reducible exact Evl.Ex.refl _
  | (refine Evl.Ex.trans ?_ (by with_reducible assumption); walk_at "ex"))
local macro_rules | `(tactic| walk_at "hx") => `(tactic| first
  | with_reducible assumption
  | (refine At.ex (by with_reducible assumption) ?_; walk_at "ex")
  | (refine Fz.tx (by with_reducible assumption) ?_; walk_at "tx")
  | (refine TrAt.ex (by with_reducible assumption) ?_; walk_at "ex")
  | (refine MlAt.tx ?_ (by with_reducible assumption); walk_at "tx")
  | (refine PlAt.tx ?_ (by with_reducible assumption); walk_at "tx")
  | (refine LtAt.tx ?_ (by with_reducible assumption); walk_at "tx")
  | (refine GvAt.tx ?_ (by with_reducible assumption); walk_at "tx")
  | (refine WsAt.tx ?_ (by with_reducible assumption); walk_at "tx")
  | (refine RwAt.tx ?_ _ _ (by with_reducible assumption); walk_at "tx")
  | (refine RwsAt.tx ?_ _ _ (by with_reducible assumption); walk_at "tx")
  | (refine RuAt.tx ?_ (by with_reducible assumption); walk_at "tx")
  | (refine PrAt.tx ?_ (by with_reducible assumption); walk_at "tx"))
local macro_rules | `(tactic| walk_at "num") => `(tactic| first
  | with_reducible assumption
  | decide
  | exact Or.inl ⟨by omega, by omega⟩
  | exact Or.inr ⟨by omega, by omega⟩
  | (refine ⟨?_, ?_⟩ <;> omega)
  | (show (0 : Int) < _; omega))
local macro_rules | `(tactic| walk_at "tx") => `(tactic| first
  | with_reducible assumption
  | (refine Tx.ex ?_; walk_at "ex"))
local macro_rules | `(tactic| walk_at "sz") => `(tactic| first
  | with_reducible assumption
  | omega
  | (refine Evl.sz_of ?_; omega)
  | (refine Evl.sz_lt ?_; omega))
local macro_rules | `(tactic| walk_at "fl") => `(tactic| first
  | rfl
  | decide +kernel)

local macro_rules | `(tactic| walk_at "mi") => `(tactic| first
  | with_reducible assumption
  | (refine MiAt.ex (by with_reducible assumption) ?_; walk_at "ex"))
section
variable {P : Program} {w : World} {K : PySem.W.Frag} {mg : Str → Option Value} {base : Heap}
def sp_letter_of (K : PySem.W.Frag) : Sp := fun vs H Q _ => ∃ (a : Addr) (m : List Pl) (n : Nat) (v : V) (g : Gv), vs = [.ref a, .int (n : Nat), v] ∧ MiAt K m a H ∧ MlOk m ∧ GvAt g v H ∧ GvOk m g ∧ ∀ u H', Ex H H' → LtAt (ltOf (namesOf m) n g) u H' → Q u H'
abbrev N_letter_of : List Str := ["mill", "number", "one", "time", "place", "kind", "load"]
theorem sc_letter_of : FnScope N_letter_of ["mill", "number", "one"] (defScope s_letter_of) := ⟨rfl, rfl, rfl, by decide +kernel, rfl, by decide +kernel, by decide +kernel⟩
theorem ok_letter_of (T : TX w K mg)  : Fn P w K mg base CX0 (2) "letter_of" ["mill", "number", "one"] (sp_letter_of K) := by
  have f_Mill_places := ok_Mill_places (P := P) (base := base) T
  obtain ⟨fd, F⟩ := T.d_letter_of
  refine mk_fn F T.g_letter_of sc_letter_of (fun vs H Q E h => by obtain ⟨_, _, _, _, _, rfl, _⟩ := h; rfl) (fun _ _ _ _ _ _ us hl => match us, hl with | [_, _, _], _ => rfl) (fun cdv A outer s H vs Q E hr h => ?_)
  obtain ⟨a, m, n, v, g, rfl, ha, hk, hg, hok, hq⟩ := h
  have hu := hu_of hr
  refine ⟨(tSeq (tAsg (tVar 2) (gTup K 4 (gCons (gName 3) (gCons (gName 4) (gCons (gName 5) (gCons (gName 6) gNil)))))) (tRet (tTup (tCons (tVar 3) (tCons (tUn (rU fun i => .int (-i)) (tC (.int 1))) (tCons (tVar 1) (tCons (tBM K "list" (rIndex K) (tMeth (He.ga K "Mill") "places" (sp_Mill_places K) [] E0 (tVar 0) tNil) (tCons (tVar 4) tNil)) (tCons (tVar 5) (tCons (tVar 6) tNil))))))))),
      (pss_cons (ps_asg (pv 2) (pg_tup rfl (pgs_cons (pg_name (i := 3) sc_letter_of.nd rfl (Or.inl rfl)) (pgs_cons (pg_name (i := 4) sc_letter_of.nd rfl (Or.inl rfl)) (pgs_cons (pg_name (i := 5) sc_letter_of.nd rfl (Or.inl rfl)) (pgs_cons (pg_name (i := 6) sc_letter_of.nd rfl (Or.inl rfl)) pgs_nil))))))
      (pss_one (ps_ret (pe_tup (pa_cons (pv 3) (pa_cons (pe_un un_neg pe_int) (pa_cons (pv 1) (pa_cons (pe_bm PySem.F.plainAttrs_list PySem.F.slot_list_index PySem.F.type_list_index mt_index (f_Mill_places.ex.elim fun _ q => q.elim fun _ q => pe_meth0 (pv 0) T.c_Mill q.2.1 q.1 (hr.mono (by omega)) q.2.2 .nil pass0) (pa_cons (pv 4) pa_nil)) (pa_cons (pv 5) (pa_cons (pv 6) pa_nil)))))))))), ?_⟩
  refine g_start (σ' := [some _, some _, some _, none, none, none, none]) rfl ?_
  obtain ⟨c, rfl, hc⟩ := hg
  obtain ⟨dx, tree, hins, hm⟩ := id ha
  obtain ⟨i, pl, hi, en⟩ := names_mem hok.place
  have hin := names_at hi
  rw [en] at hin
  refine g_seq (g_asg (g_v2 (g_gtup (by walk_at "hx") rfl (g_gcons (g_n3 (g_gcons (g_n4 (g_gcons (g_n5 (g_gcons (g_n6 (g_gnil (g_ret (g_tup (g_cons (g_v3 (g_cons (g_un (g_c (g_uI (g_cons (g_v1 (g_cons (g_bm (g_meth (g_v0 (g_methA (by walk_at "hx") (by walk_at "fl") (g_nil ?_))))))))))))))))))))))))))))
  refine ⟨a, m, rfl, ha, hk.small, fun p H1 np e1 hp => ?_⟩
  refine g_tyL (by walk_at "hx") (g_cons (g_v4 (g_nil ?_)))
  refine g_idxN hp hin hk.nd ?_
  refine g_cons (g_v5 (g_cons (g_v6 (g_nil ?_))))
  refine g_tupN (by simp) (fun p2 H2 np2 e2 hp2 => ?_)
  refine hq _ _ (e1.trans e2) ⟨p2, rfl, ?_⟩
  show At H2 p2 (.tup [.int g.time, .int (-1), .int n, .int (idx (namesOf m) g.place : Nat), .str g.kind, .int g.load])
  rw [idx_at hin hk.nd]
  exact hp2
def sp_draw_at : Sp := fun vs H Q _ => ∃ (c : Int) (p : Nat) (k : Int), vs = [.int c, .int (p : Nat), .int k] ∧ 0 ≤ c ∧ c ≤ 100000 ∧ p ≤ 100 ∧ 0 < k ∧ Q (.int (drawOf c p k)) H
abbrev N_draw_at : List Str := ["count", "place", "many"]
theorem sc_draw_at : FnScope N_draw_at ["count", "place", "many"] (defScope s_draw_at) := ⟨rfl, rfl, rfl, by decide +kernel, rfl, by decide +kernel, by decide +kernel⟩
theorem ok_draw_at (T : TX w K mg)  : Fn P w K mg base CX0 (1) "draw_at" ["count", "place", "many"] (sp_draw_at) := by
  obtain ⟨fd, F⟩ := T.d_draw_at
  refine mk_fn F T.g_draw_at sc_draw_at (fun vs H Q E h => by obtain ⟨_, _, _, rfl, _⟩ := h; rfl) (fun _ _ _ _ _ _ us hl => match us, hl with | [_, _, _], _ => rfl) (fun cdv A outer s H vs Q E hr h => ?_)
  obtain ⟨c, p, k, rfl, h1, h2, h3, h4, hq⟩ := h
  have hu := hu_of hr
  refine ⟨(tRet (tOp rModI (tOp rAddI (tOp rAddI (tOp rAddI (tOp rMulI (tVar 0) (tVar 0)) (tOp rMulI (tOp rMulI (tC (.int 3)) (tVar 0)) (tVar 1))) (tVar 1)) (tOp rDivI (tVar 0) (tC (.int 2)))) (tVar 2))),
      (pss_one (ps_ret (pe_op op_mod (pe_op op_add (pe_op op_add (pe_op op_add (pe_op op_mul (pv 0) (pv 0)) (pe_op op_mul (pe_op op_mul pe_int (pv 0)) (pv 1))) (pv 1)) (pe_op op_fdiv (pv 0) pe_int)) (pv 2)))), ?_⟩
  refine g_start (σ' := [some _, some _, some _]) rfl ?_
  refine g_ret (g_op (g_op (g_op (g_op (g_op (g_v0 (g_v0 (g_I (by walk_at "num") (g_op (g_op (g_c (g_v0 (g_I (by walk_at "num") (g_v1 (g_I (by walk_at "num") (g_I0 (g_v1 (g_I0 (g_op (g_v0 (g_c (g_I (by walk_at "num") (g_I0 (g_v2 (g_I (by walk_at "num") ?_)))))))))))))))))))))))))
  exact hq
def sp_first_boxes (K : PySem.W.Frag) : Sp := fun vs H Q _ => ∃ (a : Addr) (m : List Pl), vs = [.ref a] ∧ MiAt K m a H ∧ MlOk m ∧ ∀ v H', Ex H H' → TpAt NbAt (m.map (·.boxes)) v H' → Q v H'
abbrev N_first_boxes : List Str := ["mill", "found", "place", "name", "number"]
theorem sc_first_boxes : FnScope N_first_boxes ["mill"] (defScope s_first_boxes) := ⟨rfl, rfl, rfl, by decide +kernel, rfl, by decide +kernel, by decide +kernel⟩
theorem ok_first_boxes (T : TX w K mg)  : Fn P w K mg base CX0 (2) "first_boxes" ["mill"] (sp_first_boxes K) := by
  have f_Mill_places := ok_Mill_places (P := P) (base := base) T
  have f_Mill_boxes := ok_Mill_boxes (P := P) (base := base) T
  obtain ⟨fd, F⟩ := T.d_first_boxes
  refine mk_fn F T.g_first_boxes sc_first_boxes (fun vs H Q E h => by obtain ⟨_, _, rfl, _⟩ := h; rfl) (fun _ _ _ _ _ _ us hl => match us, hl with | [_], _ => rfl) (fun cdv A outer s H vs Q E hr h => ?_)
  obtain ⟨a, m, rfl, ha, hk, hq⟩ := h
  have hu := hu_of hr
  refine ⟨(tSeq (tAsg (tLst tNil) (gName 1)) (tSeq (tFor (iRng1 (tCons (tCB (Evl.rLenS K) (tCons (tMeth (He.ga K "Mill") "places" (sp_Mill_places K) [] E0 (tVar 0) tNil) tNil)) tNil)) (gName 2) (tDrop (tBM K "list" rAppend (tVar 1) (tCons (tCB (rTupS K) (tCons (tLc (iList K (tMeth (He.ga K "Mill") "boxes" (sp_Mill_boxes K) [] E0 (tVar 0) (tCons (tVar 2) tNil))) (gTup K 2 (gCons (gName 3) (gCons (gName 4) gNil))) tYes (tVar 4) [3, 4]) tNil)) tNil)))) (tRet (tCB (rTupS K) (tCons (tVar 1) tNil))))),
      (pss_cons (ps_set (i := 1) sc_first_boxes.nd rfl (Or.inl rfl) (pe_lst pa_nil))
      (pss_cons (ps_for PassesOwn.never rfl (pi_range1 (by rfl) T.b_range (pa_cons (pe_callB cl_len (by rfl) T.b_len bt_len (pa_cons (f_Mill_places.ex.elim fun _ q => q.elim fun _ q => pe_meth0 (pv 0) T.c_Mill q.2.1 q.1 (hr.mono (by omega)) q.2.2 .nil pass0) pa_nil)) pa_nil)) (pg_name (i := 2) sc_first_boxes.nd rfl (Or.inl rfl)) (pss_one (ps_expr (pe_bm PySem.F.plainAttrs_list PySem.F.slot_list_append PySem.F.type_list_append mt_append (pv 1) (pa_cons (pe_callTy cl_tuple (by rfl) T.b_tuple bt_tuple (pa_cons (pe_lc (own := [("name", 3), ("number", 4)]) (wi := (iList K (tMeth (He.ga K "Mill") "boxes" (sp_Mill_boxes K) [] E0 (tVar 0) (tCons (tVar 2) tNil)))) (g := (gTup K 2 (gCons (gName 3) (gCons (gName 4) gNil)))) (tt := tYes) (te := (tVar 4)) rfl sc_first_boxes.nd (pi_list (f_Mill_boxes.ex.elim fun _ q => q.elim fun _ q => pe_meth (pv 0) T.c_Mill q.2.1 q.1 (hr.mono (by omega)) q.2.2 .nil pass0 (pa_cons (pv 2) pa_nil))) (blkOk_by (N := N_first_boxes) (sc := defScope s_first_boxes) (by decide +kernel)) (fun _ _ _ _ _ => (pg_tup rfl (pgs_cons (pg_name (i := 3) sc_first_boxes.nd rfl (Or.inl rfl)) (pgs_cons (pg_name (i := 4) sc_first_boxes.nd rfl (Or.inl rfl)) pgs_nil)))) (fun _ _ _ _ _ => pts_nil) (fun _ _ _ _ _ => (pv 4))) pa_nil)) pa_nil)))))
      (pss_one (ps_ret (pe_callTy cl_tuple (by rfl) T.b_tuple bt_tuple (pa_cons (pv 1) pa_nil)))))), ?_⟩
  refine g_start (σ' := [some _, none, none, none, none]) rfl ?_
  obtain ⟨dx, tree, hins, hm⟩ := id ha
  refine g_seq (g_asg (g_lst (g_nil ?_)))
  refine g_lstN (by simp) (fun F H1 nF e1 hF => ?_)
  refine g_n1 (g_seq (g_forR (g_cons (g_cb (g_cons (g_meth (g_v0 (g_methA (by walk_at "hx") (by walk_at "fl") (g_nil ?_)))))))))
  refine ⟨a, m, rfl, by walk_at "mi", hk.small, fun p H2 np e2 hp => ?_⟩
  refine g_nil (g_lnL (by walk_at "hx") (g_nil ?_))
  refine fo_R' (n := m.length) (by unfold namesOf; simp) hk.small (fun i σ' H' => (∃ x y z, σ' = [some (.ref a), some (.ref F), x, y, z]) ∧ Kp [F] H2 H' ∧ ∃ us, At H' F (.lst us) ∧ Al NbAt ((m.take i).map (·.boxes)) us H')
    ⟨⟨_, _, _, rfl⟩, Kp.refl, [], by walk_at "hx", rfl⟩ (fun i σ' H' hi w => ?_) (fun σ' H' w => ?_)
  · obtain ⟨⟨x0, y0, z0, rfl⟩, w1, us, w2, w3⟩ := w
    have hlen := w3.len
    obtain ⟨pl, hpl⟩ : ∃ pl : Pl, m[i]? = some pl := ⟨_, List.getElem?_eq_getElem hi⟩
    have ha2' : MiAt K m a H2 := by walk_at "mi"
    have hF2 : At H2 F (.lst []) := by walk_at "hx"
    have t2 := kp_tx w1 hF2
    have ha2 : MiAt K m a H' := ha2'.kp w1 (ha2'.ne hF2) t2
    obtain ⟨dx2, tree2, hins2⟩ := ha2.ins
    have hpl' := hk.pl pl (List.mem_of_getElem? hpl)
    refine g_n2 (g_drop (g_bm (g_v1 (g_tyL (by walk_at "hx") (g_cons (g_cb (g_cons (g_lcL (g_meth (g_v0 (g_methA (by walk_at "hx") (by walk_at "fl") (g_cons (g_v2 (g_nil ?_))))))))))))))
    refine ⟨a, m, i, pl, rfl, ha2, hpl, fun q us2 H3 nq e3 hq3 hal3 => ?_⟩

    have hl3 := hal3.len
    have hl4 := hpl'.few
    refine lc_mapL (R := PrAt) (ds := pl.boxes) (h := fun p => .int p.2) hq3 hal3 (by omega) (fun r u H1 e h => h.tx (Tx.ex e)) (fun q hm4 u H4 e4 hR4 Y4 N4 hY4 => ?_) (fun D H4 n4 e4 hD4 => ?_)
    · obtain ⟨d4, rfl, hd4⟩ := hR4
      refine g_gtup (by walk_at "hx") rfl (g_gcons (g_n3 (g_gcons (g_n4 (g_gnil (And.intro rfl (g_yes (g_iteT (g_v4 ?_)))))))))
      exact hY4 _ (Evl.Ex.refl _)
    ·
      refine g_nil ?_
      refine g_tupL hD4 (fun T H5 n5 e5 hT => ?_)
      have e35 := e3.trans (e4.trans e5)
      have hF5 : At H5 F (.lst us) := w2.ex e35
      have hul : us.length ≤ 100 := by
        rw [w3.len, List.length_map, List.length_take]
        have := hk.most
        omega
      refine g_nil (g_app (by walk_at "hx") (by walk_at "sz") ?_)
      refine ⟨⟨_, _, _, rfl⟩, (w1.trans (kp_ex e35)).trans (kp_upd (by simp)), us ++ [.ref T], at_new, ?_⟩
      rw [take_at hpl, List.map_append]
      have tt : Tx H5 (upd H5 F (.lst (us ++ [.ref T]))) := tx_mut hF5
      exact Al.snoc (w3.imp fun _ _ z => z.tx ((Tx.ex e35).trans tt)) ⟨T, rfl, tt _ _ trivial hT⟩
  · obtain ⟨⟨x0, y0, z0, rfl⟩, w1, us, w2, w3⟩ := w
    rw [List.take_length] at w3
    refine g_ret (g_cb (g_cons (g_v1 (g_nil ?_))))
    refine g_tupL w2 (fun T H5 n5 e5 hT => ?_)
    exact hq _ _ ((ex_kp (e1.trans e2) w1 (by simpa using nF)).trans e5) ⟨T, us, rfl, hT, w3.imp fun _ _ z => z.tx (Tx.ex e5)⟩
def sp_state_with (K : PySem.W.Frag) : Sp := fun vs H Q _ => ∃ (a l : Addr) (m : List Pl) (ls : List Lt) (us : List V), vs = [.ref a, .ref l] ∧ MiAt K m a H ∧ MlOk m ∧ At H l (.lst us) ∧ Al LtAt ls us H ∧ ls.length ≤ 1000 ∧ ∀ v H', Ex H H' → StAt (startOf m ls) v H' → Q v H'
abbrev N_state_with : List Str := ["mill", "letters", "nothing"]
theorem sc_state_with : FnScope N_state_with ["mill", "letters"] (defScope s_state_with) := ⟨rfl, rfl, rfl, by decide +kernel, rfl, by decide +kernel, by decide +kernel⟩
theorem ok_state_with (T : TX w K mg)  : Fn P w K mg base CX0 (3) "state_with" ["mill", "letters"] (sp_state_with K) := by
  have f_Mill_places := ok_Mill_places (P := P) (base := base) T
  have f_first_boxes := ok_first_boxes (P := P) (base := base) T
  obtain ⟨fd, F⟩ := T.d_state_with
  refine mk_fn F T.g_state_with sc_state_with (fun vs H Q E h => by obtain ⟨_, _, _, _, _, rfl, _⟩ := h; rfl) (fun _ _ _ _ _ _ us hl => match us, hl with | [_, _], _ => rfl) (fun cdv A outer s H vs Q E hr h => ?_)
  obtain ⟨a, l, m, ls, us, rfl, ha, hk, hl, hal, hn, hq⟩ := h
  have hu := hu_of hr
  refine ⟨(tSeq (tAsg (tOp (rRepA K) (tTup (tCons (tC (.int 0)) tNil)) (tCB (Evl.rLenS K) (tCons (tMeth (He.ga K "Mill") "places" (sp_Mill_places K) [] E0 (tVar 0) tNil) tNil))) (gName 2)) (tRet (tTup (tCons (tCall (sp_first_boxes K) [] E0 (tCons (tVar 0) tNil)) (tCons (tVar 2) (tCons (tVar 2) (tCons (tCB (rTupS K) (tCons (tCB (rSortLt K) (tCons (tVar 1) tNil)) tNil)) tNil))))))),
      (pss_cons (ps_set (i := 2) sc_state_with.nd rfl (Or.inl rfl) (pe_op oq_repA (pe_tup (pa_cons pe_int pa_nil)) (pe_callB cl_len (by rfl) T.b_len bt_len (pa_cons (f_Mill_places.ex.elim fun _ q => q.elim fun _ q => pe_meth0 (pv 0) T.c_Mill q.2.1 q.1 (hr.mono (by omega)) q.2.2 .nil pass0) pa_nil))))
      (pss_one (ps_ret (pe_tup (pa_cons (f_first_boxes.ex.elim fun _ q => q.elim fun _ q => pe_call q.1 (hr.mono (by omega)) (by rfl) q.2.1 q.2.2.1 q.2.2.2 .nil pass0 (pa_cons (pv 0) pa_nil)) (pa_cons (pv 2) (pa_cons (pv 2) (pa_cons (pe_callTy cl_tuple (by rfl) T.b_tuple bt_tuple (pa_cons (pe_callB (cr_sortLt hr.units) (by rfl) T.b_sorted bt_sorted (pa_cons (pv 1) pa_nil)) pa_nil)) pa_nil)))))))), ?_⟩
  refine g_start (σ' := [some _, some _, none]) rfl ?_
  obtain ⟨dx, tree, hins, hm⟩ := id ha
  refine g_seq (g_asg (g_op (g_tup (g_cons (g_c (g_nil ?_))))))
  refine g_tupN (by simp) (fun p0 H0 n0 e0 hp0 => ?_)
  refine g_cb (g_cons (g_meth (g_v0 (g_methA (by walk_at "hx") (by walk_at "fl") (g_nil ?_)))))
  refine ⟨a, m, rfl, by walk_at "mi", hk.small, fun p H1 np e1 hp => ?_⟩
  refine g_nil (g_lnL (by walk_at "hx") ?_)
  refine g_repA' (k := m.length) (by unfold namesOf; simp) (hp0.ex e1) hk.one hk.small (fun q H2 e2 hq2 => ?_)
  refine g_n2 (g_ret (g_tup (g_cons (g_call (g_cons (g_v0 (g_nil ?_)))))))
  refine ⟨a, m, rfl, by walk_at "mi", hk, fun v H3 e3 hv => ?_⟩
  refine g_cons (g_v2 (g_cons (g_v2 (g_cons (g_cb (g_cons (g_cb (g_cons (g_v1 (g_nil ?_))))))))))
  refine g_sortLt (us := us) (by walk_at "hx") (hal.imp fun _ _ z => z.tx (Tx.ex (by walk_at "ex"))) (by omega) (fun p4 H4 us4 n4 e4 h4 al4 => ?_)
  refine g_nil ?_
  refine g_tupL h4 (fun T H5 n5 e5 hT => ?_)
  refine g_nil ?_
  refine g_tupN (by simp) (fun R H6 n6 e6 hR => ?_)
  have e36 : Ex H3 H6 := e4.trans (e5.trans e6)
  have rep : ∀ k, isV (List.replicate k 0) = List.replicate k (.int 0) := fun k => by unfold isV; rw [List.map_replicate]
  refine hq _ _ (by walk_at "ex") ⟨R, v, _, _, .ref T, rfl, hR, hv.tx (fun _ _ => NbAt.tx (Tx.ex e36)) (Tx.ex e36), ⟨q, rfl, ?_⟩, ⟨q, rfl, ?_⟩, ⟨T, us4, rfl, hT.ex e6, al4.imp fun _ _ z => z.tx (Tx.ex (e5.trans e6))⟩⟩
  · show At H6 q (.tup (isV (List.replicate m.length 0)))
    rw [rep]
    exact hq2.ex (e3.trans e36)
  · show At H6 q (.tup (isV (List.replicate m.length 0)))
    rw [rep]
    exact hq2.ex (e3.trans e36)
end
end PM
/-! part F12 -/
namespace PM
open PySem PySem.Spec PyProof.Rows L2 PMH
open Evl (Ex)

local macro_rules | `(tactic| walk_at "ex") => `(tactic| first
  | with_reducible assumption
  | with_reducible exact Evl.Ex.refl _
  | (refine Evl.Ex.trans ?_ (by with_reducible assumption); walk_at "ex"))
local macro_rules | `(tactic| walk_at "hx") => `(tactic| first
  | with_reducible assumption
  | (refine At.ex (by with_reducible assumption) ?_; walk_at "ex")
  | (refine Fz.tx (by with_reducible assumption) ?_; walk_at "tx")
  | (refine TrAt.ex (by with_reducible assumption) ?_; walk_at "ex")
  | (refine MlAt.tx ?_ (by with_reducible assumption); walk_at "tx")
  | (refine PlAt.tx ?_ (by with_reducible assumption); walk_at "tx")
  | (refine LtAt.tx ?_ (by with_reducible assumption); walk_at "tx")
  | (refine GvAt.tx ?_ (by with_reducible assumption); walk_at "tx")
  | (refine WsAt.tx ?_ (by with_reducible assumption); walk_at "tx")
  | (refine RwAt.tx ?_ _ _ (by with_reducible assumption); walk_at "tx")
  | (refine RwsAt.tx ?_ _ _ (by with_reducible assumption); walk_at "tx")
  | (refine RuAt.tx ?_ (by with_reducible assumption); walk_at "tx")
  | (refine PrAt.tx ?_ (by with_reducible assumption); walk_at "tx"))
local macro_rules | `(tactic| walk_at "num") => `(tactic| first
  | with_reducible assumption
  | decide
  | exact Or.inl ⟨by omega, by omega⟩
  | exact Or.inr ⟨by omega, by omega⟩
  | (refine ⟨?_, ?_⟩ <;> omega)
  | (show (0 : Int) < _; omega))
local macro_rules | `(tactic| walk_at "tx") => `(tactic| first
  | with_reducible assumption
  | (refine Tx.ex ?_; walk_at "ex"))
local macro_rules | `(tactic| walk_at "sz") => `(tactic| first
  | with_reducible assumption
  | omega
  | (refine Evl.sz_of ?_; omega)
  | (refine Evl.sz_lt ?_; omega))
local macro_rules | `(tactic| walk_at "fl") => `(tactic| first
  | rfl
  | decide +kernel)

/-! ### Doing -/
def dfs (mil nums out man : Addr) (t : Int) (p : Nat) (l c n : Int) : List (Str × V) :=
  [("mill", .ref mil), ("time", .int t), ("place", .int (p : Nat)), ("load", .int l), ("numbers", .ref nums), ("draws", .int c), ("posted", .int n), ("out", .ref out), ("fixed", .non), ("manies", .ref man)]
structure Do where
  mil : Addr
  nums : Addr
  out : Addr
  man : Addr
  dx : Addr
  t : Int
  p : Nat
  l : Int
def Do.R (d : Do) (a : Addr) : List Addr := [a, d.nums, d.out, d.man]
structure DoAt (K : PySem.W.Frag) (a : Addr) (d : Do) (k : Int) (w : WS) (H : Hp) : Prop where
  self : At H a (.ins (He.ga K "Doing") d.dx (dfs d.mil d.nums d.out d.man d.t d.p d.l w.c w.n))
  nums : At H d.nums (.dK (bxK w.bx))
  out : ∃ us, At H d.out (.lst us) ∧ Al LtAt w.out us H
  man : ∃ ms, At H d.man (.lst ms) ∧ (ms.length : Int) ≤ k
  ne : d.out ≠ d.man
/-- what a Doing may hold -/
structure WOk (ns : List Nm) (w : WS) : Prop where
  names : w.bx.map (·.1) = ns
  ok : BxOk w.bx
  c0 : 0 ≤ w.c
  n0 : 0 ≤ w.n
  few : (w.out.length : Int) ≤ w.n
  kd : ∀ l ∈ w.out, l.kind ∈ kinds
  len : ns.length ≤ 1000
theorem drawOf_ok {c : Int} {p : Nat} {m : Int} (h1 : 2 ≤ m) (h2 : m ≤ 4) : 0 ≤ drawOf c p m ∧ drawOf c p m < 100 := by
  unfold drawOf
  have a := Int.emod_nonneg (c * c + 3 * c * p + p + c / 2) (b := m) (by omega)
  have b := Int.emod_lt_of_pos (c * c + 3 * c * p + p + c / 2) (b := m) (by omega)
  omega
/-- what a row does keeps it so -/
structure WGo (ns : List Nm) (w w' : WS) (k : Nat) : Prop where
  ok : WOk ns w'
  c1 : w.c ≤ w'.c
  c2 : w'.c ≤ w.c + k
  n1 : w.n ≤ w'.n
  n2 : w'.n ≤ w.n + k
mutual
theorem rowDo_ok {ns ps : List Nm} {p : Nat} {t l : Int} (hl : 0 ≤ l ∧ l < 100) : ∀ (r : Row) (w : WS), WOk ns w → Row.ok ns ps r → WGo ns w (rowDo ps p t l r w) r.cnt
  | .set b e, w, h, k => by
    unfold Row.ok at k
    unfold rowDo Row.cnt
    have v := Tr.val_ok (time := t) (ns := ns) h.ok hl e k.2.1
    exact ⟨⟨by rw [put_names]; exact h.names, put_ok h.ok b v.1 v.2, h.c0, h.n0, h.few, h.kd, h.len⟩, Int.le_refl _, by show w.c ≤ w.c + 1; omega, Int.le_refl _, by show w.n ≤ w.n + 1; omega⟩
  | .draw b m, w, h, k => by
    unfold Row.ok at k
    unfold rowDo Row.cnt
    have v := drawOf_ok (c := w.c) (p := p) k.2.1 k.2.2
    exact ⟨⟨by rw [put_names]; exact h.names, put_ok h.ok b v.1 v.2, by have := h.c0; show 0 ≤ w.c + 1; omega, h.n0, h.few, h.kd, h.len⟩, by show w.c ≤ w.c + 1; omega, by show w.c + 1 ≤ w.c + 1; omega, Int.le_refl _, by show w.n ≤ w.n + 1; omega⟩
  | .send g k s e, w, h, q => by
    unfold Row.ok at q
    unfold rowDo Row.cnt
    refine ⟨⟨h.names, h.ok, h.c0, by have := h.n0; show 0 ≤ w.n + 1; omega, by have := h.few; simp; omega, fun x m => ?_, h.len⟩, Int.le_refl _, by show w.c ≤ w.c + 1; omega, by show w.n ≤ w.n + 1; omega, by show w.n + 1 ≤ w.n + 1; omega⟩
    rcases List.mem_append.mp m with m | m
    · exact h.kd x m
    · rw [List.mem_singleton.mp m]
      exact q.2.1
  | .ite c x y, w, h, q => by
    unfold Row.ok at q
    unfold rowDo Row.cnt
    have a := rowsDo_ok (p := p) (t := t) hl x w h q.2.1
    have b := rowsDo_ok (p := p) (t := t) hl y w h q.2.2
    split
    · exact ⟨b.ok, b.c1, by have := b.c2; omega, b.n1, by have := b.n2; omega⟩
    · exact ⟨a.ok, a.c1, by have := a.c2; omega, a.n1, by have := a.n2; omega⟩
theorem rowsDo_ok {ns ps : List Nm} {p : Nat} {t l : Int} (hl : 0 ≤ l ∧ l < 100) : ∀ (rs : List Row) (w : WS), WOk ns w → Row.oks ns ps rs → WGo ns w (rowsDo ps p t l rs w) (Row.cnts rs)
  | [], w, h, k => by
    unfold rowsDo Row.cnts
    exact ⟨h, Int.le_refl _, by omega, Int.le_refl _, by omega⟩
  | r :: rs, w, h, k => by
    unfold Row.oks at k
    unfold rowsDo Row.cnts
    have a := rowDo_ok (p := p) (t := t) hl r w h k.1
    have b := rowsDo_ok (p := p) (t := t) hl rs _ a.ok k.2
    exact ⟨b.ok, Int.le_trans a.c1 b.c1, by have := a.c2; have := b.c2; omega, Int.le_trans a.n1 b.n1, by have := a.n2; have := b.n2; omega⟩
end
theorem rowsDo_append (ps : List Nm) (p : Nat) (t l : Int) : ∀ (xs ys : List Row) (w : WS), rowsDo ps p t l (xs ++ ys) w = rowsDo ps p t l ys (rowsDo ps p t l xs w)
  | [], ys, w => by simp only [List.nil_append, rowsDo]
  | x :: xs, ys, w => by
    simp only [List.cons_append, rowsDo]
    exact rowsDo_append ps p t l xs ys _
theorem DoAt.fx {K : PySem.W.Frag} {a : Addr} {d : Do} {k : Int} {w : WS} {H : Hp} (h : DoAt K a d k w H) : ∀ b ∈ d.R a, ∀ u, Fx u → H b ≠ some u := by
  intro b hb u f e
  obtain ⟨us, h3, _⟩ := h.out
  obtain ⟨ms, h4, _⟩ := h.man
  have h1 := h.self
  have h2 := h.nums
  simp only [Do.R, List.mem_cons, List.not_mem_nil, or_false] at hb
  rcases hb with rfl | rfl | rfl | rfl
  · rw [h1] at e; cases e; exact f
  · rw [h2] at e; cases e; exact f
  · rw [h3] at e; cases e; exact f
  · rw [h4] at e; cases e; exact f
theorem DoAt.ex {K : PySem.W.Frag} {a : Addr} {d : Do} {k : Int} {w : WS} {H H' : Hp} (h : DoAt K a d k w H) (e : Ex H H') : DoAt K a d k w H' := by
  obtain ⟨us, h3, h4⟩ := h.out
  obtain ⟨ms, h5, h6⟩ := h.man
  exact ⟨h.self.ex e, h.nums.ex e, ⟨us, h3.ex e, h4.imp fun _ _ z => z.tx (Tx.ex e)⟩, ⟨ms, h5.ex e, h6⟩, h.ne⟩
theorem DoAt.nes {K : PySem.W.Frag} {a : Addr} {d : Do} {k : Int} {w : WS} {H : Hp} (h : DoAt K a d k w H) : a ≠ d.nums ∧ a ≠ d.out ∧ a ≠ d.man ∧ d.nums ≠ d.out ∧ d.nums ≠ d.man := by
  obtain ⟨us, h3, _⟩ := h.out
  obtain ⟨ms, h5, _⟩ := h.man
  exact ⟨h.self.ne h.nums (by intro z; cases z), h.self.ne h3 (by intro z; cases z), h.self.ne h5 (by intro z; cases z), h.nums.ne h3 (by intro z; cases z), h.nums.ne h5 (by intro z; cases z)⟩
theorem DoAt.mil {K : PySem.W.Frag} {a b : Addr} {d : Do} {k : Int} {w : WS} {m : List Pl} {H : Hp} (h : DoAt K a d k w H) (hm : MiAt K m b H) : b ∉ d.R a := by
  obtain ⟨dx, tree, h1, _⟩ := hm
  obtain ⟨us, h3, _⟩ := h.out
  obtain ⟨ms, h5, _⟩ := h.man
  simp only [Do.R, List.mem_cons, List.not_mem_nil, or_false, not_or]
  refine ⟨h1.ne h.self (by intro z; simp [dfs] at z), h1.ne h.nums (by intro z; cases z), h1.ne h3 (by intro z; cases z), h1.ne h5 (by intro z; cases z)⟩
theorem DoAt.kpR {K : PySem.W.Frag} {a : Addr} {d : Do} {k : Int} {w : WS} {H H' : Hp} {R : List Addr} (h : DoAt K a d k w H) (q : Kp R H H') (s : ∀ x ∈ R, x ∈ d.R a) : Tx H H' := tx_kp (q.mono s) h.fx
theorem DoAt.setBx {K : PySem.W.Frag} {a : Addr} {d : Do} {k : Int} {w : WS} {H : Hp} (h : DoAt K a d k w H) (b : Bx) : DoAt K a d k { w with bx := b } (upd H d.nums (.dK (bxK b))) ∧ Kp (d.R a) H (upd H d.nums (.dK (bxK b))) := by
  obtain ⟨us, h3, h4⟩ := h.out
  obtain ⟨ms, h5, h6⟩ := h.man
  have n := h.nes
  have kp : Kp [d.nums] H (upd H d.nums (.dK (bxK b))) := kp_upd (by simp)
  have s : ∀ x ∈ [d.nums], x ∈ d.R a := by simp [Do.R]
  have tt := h.kpR kp s
  exact ⟨⟨h.self.kp kp (by simpa using n.1), at_new, ⟨us, h3.kp kp (by simpa using n.2.2.2.1.symm), h4.imp fun _ _ z => z.tx tt⟩, ⟨ms, h5.kp kp (by simpa using n.2.2.2.2.symm), h6⟩, h.ne⟩, kp.mono s⟩
theorem DoAt.setF {K : PySem.W.Frag} {a : Addr} {d : Do} {k : Int} {w : WS} {H : Hp} (h : DoAt K a d k w H) (c n : Int) : DoAt K a d k { w with c := c, n := n } (upd H a (.ins (He.ga K "Doing") d.dx (dfs d.mil d.nums d.out d.man d.t d.p d.l c n))) ∧ Kp (d.R a) H (upd H a (.ins (He.ga K "Doing") d.dx (dfs d.mil d.nums d.out d.man d.t d.p d.l c n))) := by
  obtain ⟨us, h3, h4⟩ := h.out
  obtain ⟨ms, h5, h6⟩ := h.man
  have n' := h.nes
  have kp : Kp [a] H (upd H a (.ins (He.ga K "Doing") d.dx (dfs d.mil d.nums d.out d.man d.t d.p d.l c n))) := kp_upd (by simp)
  have s : ∀ x ∈ [a], x ∈ d.R a := by simp [Do.R]
  have tt := h.kpR kp s
  exact ⟨⟨at_new, h.nums.kp kp (by simpa using n'.1.symm), ⟨us, h3.kp kp (by simpa using n'.2.1.symm), h4.imp fun _ _ z => z.tx tt⟩, ⟨ms, h5.kp kp (by simpa using n'.2.2.1.symm), h6⟩, h.ne⟩, kp.mono s⟩
theorem DoAt.addOut {K : PySem.W.Frag} {a : Addr} {d : Do} {k : Int} {w : WS} {H : Hp} (h : DoAt K a d k w H) {us : List V} {l : Lt} {v : V} (h3 : At H d.out (.lst us)) (h4 : Al LtAt w.out us H) (hv : LtAt l v H) : DoAt K a d k { w with out := w.out ++ [l] } (upd H d.out (.lst (us ++ [v]))) ∧ Kp (d.R a) H (upd H d.out (.lst (us ++ [v]))) := by
  obtain ⟨ms, h5, h6⟩ := h.man
  have n' := h.nes
  have kp : Kp [d.out] H (upd H d.out (.lst (us ++ [v]))) := kp_upd (by simp)
  have s : ∀ x ∈ [d.out], x ∈ d.R a := by simp [Do.R]
  have tt := h.kpR kp s
  exact ⟨⟨h.self.kp kp (by simpa using n'.2.1), h.nums.kp kp (by simpa using n'.2.2.2.1), ⟨us ++ [v], at_new, Al.snoc (h4.imp fun _ _ z => z.tx tt) (hv.tx tt)⟩, ⟨ms, h5.kp kp (by simpa using h.ne.symm), h6⟩, h.ne⟩, kp.mono s⟩
theorem DoAt.more {K : PySem.W.Frag} {a : Addr} {d : Do} {k k' : Int} {w : WS} {H : Hp} (h : DoAt K a d k w H) (l : k ≤ k') : DoAt K a d k' w H := by
  obtain ⟨ms, h5, h6⟩ := h.man
  exact ⟨h.self, h.nums, h.out, ⟨ms, h5, by omega⟩, h.ne⟩
section
variable {P : Program} {w : World} {K : PySem.W.Frag} {mg : Str → Option Value} {base : Heap}
def sp_Doing_reads (K : PySem.W.Frag) : Sp := fun vs H Q _ => ∃ (a : Addr) (d : Do) (k : Int) (w : WS) (ns : List Nm) (t : Tr) (u : V), vs = [.ref a, u] ∧ DoAt K a d k w H ∧ WOk ns w ∧ (0 ≤ d.l ∧ d.l < 100) ∧ TrAt t u H ∧ TrOk ns t ∧ Q (.int (t.val w.bx d.l d.t)) H
abbrev N_Doing_reads : List Str := ["self", "tree"]
theorem sc_Doing_reads : FnScope N_Doing_reads ["self", "tree"] (defScope s_Doing_reads) := ⟨rfl, rfl, rfl, by decide +kernel, rfl, by decide +kernel, by decide +kernel⟩
theorem ok_Doing_reads (T : TX w K mg)  : Me P w K mg base CX0 (6) (He.ga K "Doing") "reads" ["self", "tree"] (sp_Doing_reads K) := by
  have f_value := ok_value (P := P) (base := base) T (ok_reckoned T) 3
  obtain ⟨fd, F⟩ := T.d_Doing_reads
  refine mk_me F T.me_Doing_reads sc_Doing_reads (fun vs H Q E h => by obtain ⟨_, _, _, _, _, _, _, rfl, _⟩ := h; rfl) (fun _ _ _ _ _ _ us hl => match us, hl with | [_, _], _ => rfl) (fun cdv A outer s H vs Q E hr h => ?_)
  obtain ⟨a, d, k, w, ns, t, u, rfl, ha, hw, hl, ht, hk, hq⟩ := h
  have hu := hu_of hr
  refine ⟨(tRet (tCall (sp_value 3) [] E0 (tCons (tVar 1) (tCons (tFld K (tVar 0) "numbers") (tCons (tFld K (tVar 0) "load") (tCons (tFld K (tVar 0) "time") tNil)))))),
      (pss_one (ps_ret (f_value.ex.elim fun _ q => q.elim fun _ q => pe_call q.1 (hr.mono (by omega)) (by rfl) q.2.1 q.2.2.1 q.2.2.2 .nil pass0 (pa_cons (pv 1) (pa_cons (pe_fld (pv 0) rfl) (pa_cons (pe_fld (pv 0) rfl) (pa_cons (pe_fld (pv 0) rfl) pa_nil))))))), ?_⟩
  refine g_start (σ' := [some _, some _]) rfl ?_
  have hs := ha.self
  have hn := ha.nums
  refine g_ret (g_call (g_cons (g_v1 (g_cons (g_fld (g_v0 (g_fldA (by walk_at "hx") T.c_Doing T.n_numbers (by walk_at "fl") (g_cons (g_fld (g_v0 (g_fldA (by walk_at "hx") T.c_Doing T.n_load (by walk_at "fl") (g_cons (g_fld (g_v0 (g_fldA (by walk_at "hx") T.c_Doing T.n_time (by walk_at "fl") (g_nil ?_))))))))))))))))
  exact ⟨t, u, d.nums, w.bx, d.l, d.t, rfl, ht, hk.2.1, by rw [hw.names]; exact hk.1, hn, hw.ok, hl, hq⟩
def sp_Doing_drawn_number (K : PySem.W.Frag) : Sp := fun vs H Q _ => ∃ (a : Addr) (d : Do) (k : Int) (w : WS) (m : Int), vs = [.ref a, .int m] ∧ DoAt K a d k w H ∧ 0 ≤ w.c ∧ w.c ≤ 10000 ∧ k ≤ 10000 ∧ d.p ≤ 100 ∧ 0 < m ∧
  ∀ H', Kp [d.man] H H' → DoAt K a d (k + 1) w H' → Q (.int (drawOf w.c d.p m)) H'
abbrev N_Doing_drawn_number : List Str := ["self", "many"]
theorem sc_Doing_drawn_number : FnScope N_Doing_drawn_number ["self", "many"] (defScope s_Doing_drawn_number) := ⟨rfl, rfl, rfl, by decide +kernel, rfl, by decide +kernel, by decide +kernel⟩
theorem ok_Doing_drawn_number (T : TX w K mg)  : Me P w K mg base CX0 (2) (He.ga K "Doing") "drawn_number" ["self", "many"] (sp_Doing_drawn_number K) := by
  have f_draw_at := ok_draw_at (P := P) (base := base) T
  obtain ⟨fd, F⟩ := T.d_Doing_drawn_number
  refine mk_me F T.me_Doing_drawn_number sc_Doing_drawn_number (fun vs H Q E h => by obtain ⟨_, _, _, _, _, rfl, _⟩ := h; rfl) (fun _ _ _ _ _ _ us hl => match us, hl with | [_, _], _ => rfl) (fun cdv A outer s H vs Q E hr h => ?_)
  obtain ⟨a, d, k, w, m, rfl, ha, hc0, hc1, hk, hp, hm, hq⟩ := h
  have hu := hu_of hr
  refine ⟨(tSeq (tDrop (tBM K "list" rAppend (tFld K (tVar 0) "manies") (tCons (tVar 1) tNil))) (tSeq (tIfS (tTest (tOp rIsN (tFld K (tVar 0) "fixed") (tC .non))) (tRet (tCall sp_draw_at [] E0 (tCons (tFld K (tVar 0) "draws") (tCons (tFld K (tVar 0) "place") (tCons (tVar 1) tNil))))) tNext) (tRet (tIf (tTest (tOp rLeI (tCB (Evl.rLenS K) (tCons (tFld K (tVar 0) "manies") tNil)) (tCB (Evl.rLenS K) (tCons (tFld K (tVar 0) "fixed") tNil)))) (tOp (rIxT K) (tFld K (tVar 0) "fixed") (tOp rSubI (tCB (Evl.rLenS K) (tCons (tFld K (tVar 0) "manies") tNil)) (tC (.int 1)))) (tC (.int 0)))))),
      (pss_cons (ps_expr (pe_bm PySem.F.plainAttrs_list PySem.F.slot_list_append PySem.F.type_list_append mt_append (pe_fld (pv 0) rfl) (pa_cons (pv 1) pa_nil)))
      (pss_cons (ps_if (pt_cmpR op_isN1 (pe_fld (pv 0) rfl) pe_non (nomark _)) (pss_one (ps_ret (f_draw_at.ex.elim fun _ q => q.elim fun _ q => pe_call q.1 (hr.mono (by omega)) (by rfl) q.2.1 q.2.2.1 q.2.2.2 .nil pass0 (pa_cons (pe_fld (pv 0) rfl) (pa_cons (pe_fld (pv 0) rfl) (pa_cons (pv 1) pa_nil)))))) pss_nil)
      (pss_one (ps_ret (pe_ifExp (pt_cmpR op_le (pe_callB cl_len (by rfl) T.b_len bt_len (pa_cons (pe_fld (pv 0) rfl) pa_nil)) (pe_callB cl_len (by rfl) T.b_len bt_len (pa_cons (pe_fld (pv 0) rfl) pa_nil)) (nomark _)) (pe_ix ix_tup (pe_fld (pv 0) rfl) (pe_op op_sub (pe_callB cl_len (by rfl) T.b_len bt_len (pa_cons (pe_fld (pv 0) rfl) pa_nil)) pe_int) (fun _ _ => rfl)) pe_int))))), ?_⟩
  refine g_start (σ' := [some _, some _]) rfl ?_
  have hs := ha.self
  have nes := ha.nes
  obtain ⟨us, ho, hal⟩ := ha.out
  obtain ⟨ms, hms, hml⟩ := ha.man
  have hms2 : ms.length ≤ 10000 := by omega
  refine g_seq (g_drop (g_bm (g_fld (g_v0 (g_fldA (by walk_at "hx") T.c_Doing T.n_manies (by walk_at "fl") (g_tyL (by walk_at "hx") (g_cons (g_v1 (g_nil (g_app (by walk_at "hx") (by walk_at "sz") ?_))))))))))
  have hs' : At (upd H d.man (.lst (ms ++ [.int m]))) a (.ins (He.ga K "Doing") d.dx (dfs d.mil d.nums d.out d.man d.t d.p d.l w.c w.n)) := hs.kp (kp_upd (R := [d.man]) (by simp)) (by simpa using nes.2.2.1)
  have tt : Tx H (upd H d.man (.lst (ms ++ [.int m]))) := tx_mut hms
  generalize hH : upd H d.man (.lst (ms ++ [.int m])) = H1 at hs' tt ⊢
  refine g_seq (g_ifs (g_tst (g_op (g_fld (g_v0 (g_fldA (by walk_at "hx") T.c_Doing T.n_fixed (by walk_at "fl") (g_c (g_isN (g_k (g_ifD1 rfl (g_ret (g_call (g_cons (g_fld (g_v0 (g_fldA (by walk_at "hx") T.c_Doing T.n_draws (by walk_at "fl") (g_cons (g_fld (g_v0 (g_fldA (by walk_at "hx") T.c_Doing T.n_place (by walk_at "fl") (g_cons (g_v1 (g_nil ?_)))))))))))))))))))))))
  refine ⟨w.c, d.p, m, rfl, hc0, by omega, hp, hm, ?_⟩
  have kp : Kp [d.man] H H1 := by rw [← hH]; exact kp_upd (by simp)
  refine hq _ kp ⟨hs', ha.nums.kp kp (by simpa using nes.2.2.2.2), ⟨us, ho.kp kp (by simpa using ha.ne), hal.imp fun _ _ z => z.tx tt⟩, ⟨ms ++ [.int m], by rw [← hH]; exact at_new, by simp; omega⟩, ha.ne⟩
def sp_Doing_do_row (K : PySem.W.Frag) (dd : Nat) : Sp := fun vs H Q _ => ∃ (a : Addr) (d : Do) (w : WS) (ns : List Nm) (m : List Pl) (r : Row) (u : V), vs = [.ref a, u] ∧ DoAt K a d w.c w H ∧ WOk ns w ∧ (0 ≤ d.l ∧ d.l < 100) ∧ MiAt K m d.mil H ∧ MlOk m ∧ RwAt r u H ∧ Row.ok ns (namesOf m) r ∧ r.deep ≤ dd ∧
  w.c + r.cnt ≤ 9000 ∧ w.n + r.cnt ≤ 9000 ∧ d.p ≤ 100 ∧ ∀ H', Kp (d.R a) H H' → DoAt K a d (rowDo (namesOf m) d.p d.t d.l r w).c (rowDo (namesOf m) d.p d.t d.l r w) H' → Q .non H'
def sp_Doing_do_rows (K : PySem.W.Frag) (dd : Nat) : Sp := fun vs H Q _ => ∃ (a : Addr) (d : Do) (w : WS) (ns : List Nm) (m : List Pl) (rs : List Row) (u : V), vs = [.ref a, u] ∧ DoAt K a d w.c w H ∧ WOk ns w ∧ (0 ≤ d.l ∧ d.l < 100) ∧ MiAt K m d.mil H ∧ MlOk m ∧ TpAt RwAt rs u H ∧ Row.oks ns (namesOf m) rs ∧ Row.deeps rs ≤ dd ∧
  w.c + Row.cnts rs ≤ 9000 ∧ w.n + Row.cnts rs ≤ 9000 ∧ d.p ≤ 100 ∧ ∀ H', Kp (d.R a) H H' → DoAt K a d (rowsDo (namesOf m) d.p d.t d.l rs w).c (rowsDo (namesOf m) d.p d.t d.l rs w) H' → Q .non H'
theorem Row.oks_take {bs ps : List Nm} : ∀ {rs : List Row} (i : Nat), Row.oks bs ps rs → Row.oks bs ps (rs.take i)
  | _, 0, _ => by simp only [List.take_zero, Row.oks]
  | [], i + 1, h => by simp only [List.take_nil, Row.oks]
  | r :: rs, i + 1, h => by
    unfold Row.oks at h
    rw [List.take_succ_cons]
    unfold Row.oks
    exact ⟨h.1, Row.oks_take i h.2⟩
theorem Row.cnts_cons (r : Row) (rs : List Row) : Row.cnts (r :: rs) = r.cnt + Row.cnts rs := by simp only [Row.cnts]
theorem Row.cnts_append : ∀ xs ys : List Row, Row.cnts (xs ++ ys) = Row.cnts xs + Row.cnts ys
  | [], ys => by simp only [List.nil_append, Row.cnts]; omega
  | x :: xs, ys => by
    simp only [List.cons_append, Row.cnts, Row.cnts_append xs ys]
    omega
theorem Row.cnts_take {rs : List Row} {i : Nat} {r : Row} (h : rs[i]? = some r) : Row.cnts (rs.take i) + r.cnt ≤ Row.cnts rs := by
  obtain ⟨hi, e⟩ := List.getElem?_eq_some_iff.mp h
  have q : rs = rs.take i ++ (r :: rs.drop (i + 1)) := by
    rw [← e, ← List.drop_eq_getElem_cons hi, List.take_append_drop]
  have q2 := congrArg Row.cnts q
  rw [Row.cnts_append, Row.cnts_cons] at q2
  omega
abbrev N_Doing_do_rows : List Str := ["self", "rows", "row"]
theorem sc_Doing_do_rows : FnScope N_Doing_do_rows ["self", "rows"] (defScope s_Doing_do_rows) := ⟨rfl, rfl, rfl, by decide +kernel, rfl, by decide +kernel, by decide +kernel⟩
theorem ok_Doing_do_rows (T : TX w K mg) (dd : Nat) (f_Doing_do_row : Me P w K mg base CX0 (2 * dd + 10) (He.ga K "Doing") "do_row" ["self", "row"] (sp_Doing_do_row K dd)) : Me P w K mg base CX0 (2 * dd + 11) (He.ga K "Doing") "do_rows" ["self", "rows"] (sp_Doing_do_rows K dd) := by
  obtain ⟨fd, F⟩ := T.d_Doing_do_rows
  refine mk_me F T.me_Doing_do_rows sc_Doing_do_rows (fun vs H Q E h => by obtain ⟨_, _, _, _, _, _, _, rfl, _⟩ := h; rfl) (fun _ _ _ _ _ _ us hl => match us, hl with | [_, _], _ => rfl) (fun cdv A outer s H vs Q E hr h => ?_)
  obtain ⟨a, d, w, ns, m, rs, u, rfl, ha, hw, hl, hm, hk, hrs, hok, hd, hc, hn, hp, hq⟩ := h
  have hu := hu_of hr
  refine ⟨(tFor (iTup K (tVar 1)) (gName 2) (tDrop (tMeth (He.ga K "Doing") "do_row" (sp_Doing_do_row K dd) [] E0 (tVar 0) (tCons (tVar 2) tNil)))),
      (pss_one (ps_for PassesOwn.never rfl (pi_tup (pv 1)) (pg_name (i := 2) sc_Doing_do_rows.nd rfl (Or.inl rfl)) (pss_one (ps_expr (f_Doing_do_row.ex.elim fun _ q => q.elim fun _ q => pe_meth (pv 0) T.c_Doing q.2.1 q.1 (hr.mono (by omega)) q.2.2 .nil pass0 (pa_cons (pv 2) pa_nil)))))), ?_⟩
  refine g_start (σ' := [some _, some _, none]) rfl ?_
  obtain ⟨c, us, rfl, hcc, hal⟩ := hrs
  have W := fun i : Nat => rowsDo_ok (p := d.p) (t := d.t) hl (rs.take i) w hw (Row.oks_take i hok)
  refine g_forT (g_v1 ?_)
  refine fo_T hcc (fun i σ' H' => (∃ x, σ' = [some (.ref a), some (.ref c), x]) ∧ Kp (d.R a) H H' ∧ DoAt K a d (rowsDo (namesOf m) d.p d.t d.l (rs.take i) w).c (rowsDo (namesOf m) d.p d.t d.l (rs.take i) w) H')
    ⟨⟨_, rfl⟩, Kp.refl, by simp only [List.take_zero, rowsDo]; exact ha⟩ (fun i σ' H' w1 => hcc.tx (tx_kp w1.2.1 ha.fx)) (fun i u σ' H' hi w1 => ?_) (fun σ' H' w1 => ?_)
  · obtain ⟨⟨x0, rfl⟩, w2, w3⟩ := w1
    obtain ⟨r, hr1, hR⟩ := hal.get hi
    have tt := tx_kp w2 ha.fx
    have hct := Row.cnts_take hr1
    have Wi := W i
    have hs := w3.self
    have c2 := Wi.c2
    have n2 := Wi.n2
    refine g_n2 (g_drop (g_meth (g_v0 (g_methA (by walk_at "hx") (by walk_at "fl") (g_cons (g_v2 (g_nil ?_)))))))
    refine ⟨a, d, _, ns, m, r, u, rfl, w3, Wi.ok, hl, hm.kp w2 (ha.mil hm) tt, hk, RwAt.tx tt r u hR, Row.oks_mem hok (List.mem_of_getElem? hr1), Nat.le_trans (Row.cnts_mem (List.mem_of_getElem? hr1)).2 hd, by omega, by omega, hp, fun H4 k4 d4 => ?_⟩
    refine ⟨⟨_, rfl⟩, w2.trans k4, ?_⟩
    have e : rowsDo (namesOf m) d.p d.t d.l (rs.take (i + 1)) w = rowDo (namesOf m) d.p d.t d.l r (rowsDo (namesOf m) d.p d.t d.l (rs.take i) w) := by
      rw [take_at hr1, rowsDo_append]
      simp only [rowsDo]
    rw [e]
    exact d4
  · obtain ⟨_, w2, w3⟩ := w1
    rw [hal.len, List.take_length] at w3
    exact hq H' w2 w3
abbrev N_Doing_do_row : List Str := ["self", "row", "goal", "load"]
theorem sc_Doing_do_row : FnScope N_Doing_do_row ["self", "row"] (defScope s_Doing_do_row) := ⟨rfl, rfl, rfl, by decide +kernel, rfl, by decide +kernel, by decide +kernel⟩
theorem ok_Doing_do_row (T : TX w K mg)  (d : Nat) : Me P w K mg base CX0 (2 * d + 10) (He.ga K "Doing") "do_row" ["self", "row"] (sp_Doing_do_row K d) := by
  have f_Doing_reads := ok_Doing_reads (P := P) (base := base) T
  have f_Doing_drawn_number := ok_Doing_drawn_number (P := P) (base := base) T
  have f_Mill_places := ok_Mill_places (P := P) (base := base) T
  induction d with
  | zero =>
    obtain ⟨fd, F⟩ := T.d_Doing_do_row
    refine mk_me F T.me_Doing_do_row sc_Doing_do_row (fun vs H Q E h => by obtain ⟨_, _, _, _, _, _, _, rfl, _⟩ := h; rfl) (fun _ _ _ _ _ _ us hl => match us, hl with | [_, _], _ => rfl) (fun cdv A outer s H vs Q E hr h => ?_)
    obtain ⟨a, o, w, ns, m, r, u, rfl, ha, hw, hl, hm, hk, hrw, hok, hd, hc, hn, hp, hq⟩ := h
    exact absurd hd (by have := r.deep_pos; omega)
  | succ d f_Doing_do_row =>
    have f_Doing_do_rows := ok_Doing_do_rows T d f_Doing_do_row
    obtain ⟨fd, F⟩ := T.d_Doing_do_row
    refine mk_me F T.me_Doing_do_row sc_Doing_do_row (fun vs H Q E h => by obtain ⟨_, _, _, _, _, _, _, rfl, _⟩ := h; rfl) (fun _ _ _ _ _ _ us hl => match us, hl with | [_, _], _ => rfl) (fun cdv A outer s H vs Q E hr h => ?_)
    obtain ⟨a, o, w, ns, m, r, u, rfl, ha, hw, hl, hm, hk, hrw, hok, hd, hc, hn, hp, hq⟩ := h
    have hu := hu_of hr
    refine ⟨(tIfS (tTest (tOp rEq (tOp (rIxT K) (tVar 1) (tC (.int 0))) (tC (.str "set")))) (sDPut (tFld K (tVar 0) "numbers") (tOp (rIxT K) (tVar 1) (tC (.int 1))) (tMeth (He.ga K "Doing") "reads" (sp_Doing_reads K) [] E0 (tVar 0) (tCons (tOp (rIxT K) (tVar 1) (tC (.int 2))) tNil))) (tIfS (tTest (tOp rEq (tOp (rIxT K) (tVar 1) (tC (.int 0))) (tC (.str "draw")))) (tSeq (sDPut (tFld K (tVar 0) "numbers") (tOp (rIxT K) (tVar 1) (tC (.int 1))) (tMeth (He.ga K "Doing") "drawn_number" (sp_Doing_drawn_number K) [] E0 (tVar 0) (tCons (tOp (rIxT K) (tVar 1) (tC (.int 2))) tNil))) (sFldAug K (tVar 0) (tC (.int 1)) rAdd "draws")) (tIfS (tTest (tOp rEq (tOp (rIxT K) (tVar 1) (tC (.int 0))) (tC (.str "send")))) (tSeq (tAsg (tBM K "list" (rIndex K) (tMeth (He.ga K "Mill") "places" (sp_Mill_places K) [] E0 (tFld K (tVar 0) "mill") tNil) (tCons (tOp (rIxT K) (tVar 1) (tC (.int 1))) tNil)) (gName 2)) (tSeq (tAsg (tMeth (He.ga K "Doing") "reads" (sp_Doing_reads K) [] E0 (tVar 0) (tCons (tOp (rIxT K) (tVar 1) (tC (.int 4))) tNil)) (gName 3)) (tSeq (tDrop (tBM K "list" rAppend (tFld K (tVar 0) "out") (tCons (tTup (tCons (tOp rAddI (tFld K (tVar 0) "time") (tOp (rIxT K) (tVar 1) (tC (.int 3)))) (tCons (tFld K (tVar 0) "place") (tCons (tFld K (tVar 0) "posted") (tCons (tVar 2) (tCons (tOp (rIxT K) (tVar 1) (tC (.int 2))) (tCons (tVar 3) tNil))))))) tNil))) (sFldAug K (tVar 0) (tC (.int 1)) rAdd "posted")))) (tDrop (tMeth (He.ga K "Doing") "do_rows" (sp_Doing_do_rows K d) [] E0 (tVar 0) (tCons (tIf (tTest (tOp rEq (tMeth (He.ga K "Doing") "reads" (sp_Doing_reads K) [] E0 (tVar 0) (tCons (tOp (rIxT K) (tVar 1) (tC (.int 1))) tNil)) (tC (.int 0)))) (tOp (rIxT K) (tVar 1) (tC (.int 3))) (tOp (rIxT K) (tVar 1) (tC (.int 2)))) tNil)))))),
      (pss_one (ps_if (pt_cmpR op_eq (pe_ix ix_tup (pv 1) pe_int (fun _ _ => rfl)) pe_str (nomark _)) (pss_one (ps_dput hu (pe_fld (pv 0) rfl) (pe_ix ix_tup (pv 1) pe_int (fun _ _ => rfl)) (f_Doing_reads.ex.elim fun _ q => q.elim fun _ q => pe_meth (pv 0) T.c_Doing q.2.1 q.1 (hr.mono (by omega)) q.2.2 .nil pass0 (pa_cons (pe_ix ix_tup (pv 1) pe_int (fun _ _ => rfl)) pa_nil)) rfl)) (pss_one (ps_if (pt_cmpR op_eq (pe_ix ix_tup (pv 1) pe_int (fun _ _ => rfl)) pe_str (nomark _)) (pss_cons (ps_dput hu (pe_fld (pv 0) rfl) (pe_ix ix_tup (pv 1) pe_int (fun _ _ => rfl)) (f_Doing_drawn_number.ex.elim fun _ q => q.elim fun _ q => pe_meth (pv 0) T.c_Doing q.2.1 q.1 (hr.mono (by omega)) q.2.2 .nil pass0 (pa_cons (pe_ix ix_tup (pv 1) pe_int (fun _ _ => rfl)) pa_nil)) rfl)
      (pss_one (ps_fldaug (pv 0) pe_int in_add))) (pss_one (ps_if (pt_cmpR op_eq (pe_ix ix_tup (pv 1) pe_int (fun _ _ => rfl)) pe_str (nomark _)) (pss_cons (ps_set (i := 2) sc_Doing_do_row.nd rfl (Or.inl rfl) (pe_bm PySem.F.plainAttrs_list PySem.F.slot_list_index PySem.F.type_list_index mt_index (f_Mill_places.ex.elim fun _ q => q.elim fun _ q => pe_meth0 (pe_fld (pv 0) rfl) T.c_Mill q.2.1 q.1 (hr.mono (by omega)) q.2.2 .nil pass0) (pa_cons (pe_ix ix_tup (pv 1) pe_int (fun _ _ => rfl)) pa_nil)))
      (pss_cons (ps_set (i := 3) sc_Doing_do_row.nd rfl (Or.inl rfl) (f_Doing_reads.ex.elim fun _ q => q.elim fun _ q => pe_meth (pv 0) T.c_Doing q.2.1 q.1 (hr.mono (by omega)) q.2.2 .nil pass0 (pa_cons (pe_ix ix_tup (pv 1) pe_int (fun _ _ => rfl)) pa_nil)))
      (pss_cons (ps_expr (pe_bm PySem.F.plainAttrs_list PySem.F.slot_list_append PySem.F.type_list_append mt_append (pe_fld (pv 0) rfl) (pa_cons (pe_tup (pa_cons (pe_op op_add (pe_fld (pv 0) rfl) (pe_ix ix_tup (pv 1) pe_int (fun _ _ => rfl))) (pa_cons (pe_fld (pv 0) rfl) (pa_cons (pe_fld (pv 0) rfl) (pa_cons (pv 2) (pa_cons (pe_ix ix_tup (pv 1) pe_int (fun _ _ => rfl)) (pa_cons (pv 3) pa_nil))))))) pa_nil)))
      (pss_one (ps_fldaug (pv 0) pe_int in_add))))) (pss_one (ps_expr (f_Doing_do_rows.ex.elim fun _ q => q.elim fun _ q => pe_meth (pv 0) T.c_Doing q.2.1 q.1 (hr.mono (by omega)) q.2.2 .nil pass0 (pa_cons (pe_ifExp (pt_cmpR op_eq (f_Doing_reads.ex.elim fun _ q => q.elim fun _ q => pe_meth (pv 0) T.c_Doing q.2.1 q.1 (hr.mono (by omega)) q.2.2 .nil pass0 (pa_cons (pe_ix ix_tup (pv 1) pe_int (fun _ _ => rfl)) pa_nil)) pe_int (nomark _)) (pe_ix ix_tup (pv 1) pe_int (fun _ _ => rfl)) (pe_ix ix_tup (pv 1) pe_int (fun _ _ => rfl))) pa_nil)))))))))), ?_⟩
    refine g_start (σ' := [some _, some _, none, none]) rfl ?_
    have hs := ha.self
    have hnu := ha.nums
    have nes := ha.nes
    obtain ⟨us, ho, hal⟩ := ha.out
    obtain ⟨ms, hms, hml⟩ := ha.man
    have small : (bxK w.bx).length < sizeLine := by
      have e := congrArg List.length hw.names
      rw [List.length_map] at e
      have := hw.len
      rw [bxK_len]
      exact Evl.sz_lt (by omega)
    cases r with
    | set n t =>
      unfold RwAt at hrw
      obtain ⟨c, v, rfl, hcc, ht⟩ := hrw
      unfold Row.ok at hok
      unfold rowDo at hq
      refine g_ifs (g_tst (g_op (g_op (g_v1 (g_c (g_ixT (by walk_at "hx") (show atI _ _ = some _ from rfl) (g_c (g_eqS (g_k (g_ifD1 rfl (g_dput (g_meth (g_v0 (g_methA (by walk_at "hx") (by walk_at "fl") (g_cons (g_op (g_v1 (g_c (g_ixT (by walk_at "hx") (show atI _ _ = some _ from rfl) (g_nil ?_))))))))))))))))))))
      refine ⟨a, o, w.c, w, ns, t, v, rfl, ha, hw, hl, ht, hok.2, ?_⟩
      refine g_fld (g_v0 (g_fldA (by walk_at "hx") T.c_Doing T.n_numbers (by walk_at "fl") (g_op (g_v1 (g_c (g_ixT (by walk_at "hx") (show atI _ _ = some _ from rfl) ?_))))))
      refine g_dputS hnu small ?_
      rw [putK_bxK _ (by rw [hw.names]; exact hok.1)]
      have z := ha.setBx (put w.bx n (t.val w.bx o.l o.t))
      exact hq _ z.2 z.1
    | draw n k =>
      unfold RwAt at hrw
      obtain ⟨c, rfl, hcc⟩ := hrw
      unfold Row.ok at hok
      unfold rowDo at hq
      unfold Row.cnt at hc
      refine g_ifs (g_tst (g_op (g_op (g_v1 (g_c (g_ixT (by walk_at "hx") (show atI _ _ = some _ from rfl) (g_c (g_eqS (g_k (g_ifD0 (by decide +kernel) (g_ifs (g_tst (g_op (g_op (g_v1 (g_c (g_ixT (by walk_at "hx") (show atI _ _ = some _ from rfl) (g_c (g_eqS (g_k (g_ifD1 rfl (g_seq (g_dput (g_meth (g_v0 (g_methA (by walk_at "hx") (by walk_at "fl") (g_cons (g_op (g_v1 (g_c (g_ixT (by walk_at "hx") (show atI _ _ = some _ from rfl) (g_nil ?_))))))))))))))))))))))))))))))))
      refine ⟨a, o, w.c, w, k, rfl, ha, hw.c0, by omega, by omega, hp, by omega, fun H1 k1 d1 => ?_⟩
      have t1 := ha.kpR k1 (by simp [Do.R])
      have hnu1 := d1.nums
      have hs1 := d1.self
      have hcc1 := hcc.tx t1
      refine g_fld (g_v0 (g_fldA (by walk_at "hx") T.c_Doing T.n_numbers (by walk_at "fl") (g_op (g_v1 (g_c (g_ixT (by walk_at "hx") (show atI _ _ = some _ from rfl) ?_))))))
      refine g_dputS hnu1 small ?_
      rw [putK_bxK _ (by rw [hw.names]; exact hok.1)]
      have z := d1.setBx (put w.bx n (drawOf w.c o.p k))
      generalize upd H1 o.nums (.dK (bxK (put w.bx n (drawOf w.c o.p k)))) = H2 at z
      have hs2 := z.1.self
      refine g_faug (g_v0 (g_faugA (by walk_at "hx") T.c_Doing T.n_draws (by walk_at "fl") (by exact of_decide_eq_true rfl) ?_))
      have z2 := z.1.setF (w.c + 1) w.n
      exact hq _ (((k1.mono (by simp [Do.R])).trans z.2).trans z2.2) z2.1
    | send g k s t =>
      unfold RwAt at hrw
      obtain ⟨c, v, rfl, hcc, ht⟩ := hrw
      unfold Row.ok at hok
      unfold rowDo at hq
      unfold Row.cnt at hn
      obtain ⟨k1, k2, k3, k4, k5⟩ := hok
      obtain ⟨i, pl, hi, en⟩ := names_mem k1
      have hin := names_at hi
      rw [en] at hin
      obtain ⟨dxm, trm, hins⟩ := hm.ins
      refine g_ifs (g_tst (g_op (g_op (g_v1 (g_c (g_ixT (by walk_at "hx") (show atI _ _ = some _ from rfl) (g_c (g_eqS (g_k (g_ifD0 (by decide +kernel) (g_ifs (g_tst (g_op (g_op (g_v1 (g_c (g_ixT (by walk_at "hx") (show atI _ _ = some _ from rfl) (g_c (g_eqS (g_k (g_ifD0 (by decide +kernel) (g_ifs (g_tst (g_op (g_op (g_v1 (g_c (g_ixT (by walk_at "hx") (show atI _ _ = some _ from rfl) (g_c (g_eqS (g_k (g_ifD1 rfl (g_seq (g_asg (g_bm (g_meth (g_fld (g_v0 (g_fldA (by walk_at "hx") T.c_Doing T.n_mill (by walk_at "fl") (g_methA (by walk_at "hx") (by walk_at "fl") (g_nil ?_)))))))))))))))))))))))))))))))))))))))))
      refine ⟨o.mil, m, rfl, hm, hk.small, fun p1 H1 np1 e1 hp1 => ?_⟩
      refine g_tyL (by walk_at "hx") (g_cons (g_op (g_v1 (g_c (g_ixT (by walk_at "hx") (show atI _ _ = some _ from rfl) (g_nil ?_))))))
      refine g_idxN hp1 hin hk.nd ?_
      have ha1 := ha.ex e1
      have hs1 := ha1.self
      refine g_n2 (g_seq (g_asg (g_meth (g_v0 (g_methA (by walk_at "hx") (by walk_at "fl") (g_cons (g_op (g_v1 (g_c (g_ixT (by walk_at "hx") (show atI _ _ = some _ from rfl) (g_nil ?_)))))))))))
      refine ⟨a, o, w.c, w, ns, t, v, rfl, ha1, hw, hl, ht.ex e1, k5, ?_⟩
      refine g_n3 (g_seq (g_drop (g_bm (g_fld (g_v0 (g_fldA (by walk_at "hx") T.c_Doing T.n_out (by walk_at "fl") (g_tyL (by walk_at "hx") (g_cons (g_tup (g_cons (g_op (g_fld (g_v0 (g_fldA (by walk_at "hx") T.c_Doing T.n_time (by walk_at "fl") (g_op (g_v1 (g_c (g_ixT (by walk_at "hx") (show atI _ _ = some _ from rfl) (g_I0 (g_cons (g_fld (g_v0 (g_fldA (by walk_at "hx") T.c_Doing T.n_place (by walk_at "fl") (g_cons (g_fld (g_v0 (g_fldA (by walk_at "hx") T.c_Doing T.n_posted (by walk_at "fl") (g_cons (g_v2 (g_cons (g_op (g_v1 (g_c (g_ixT (by walk_at "hx") (show atI _ _ = some _ from rfl) (g_cons (g_v3 (g_nil ?_)))))))))))))))))))))))))))))))))))))
      refine g_tupN (by simp) (fun pT H2 n2 e2 hT => ?_)
      have ha2 := ha1.ex e2
      have ho2 : At H2 o.out (.lst us) := by walk_at "hx"
      have hul : us.length ≤ 10000 := by
        have := hw.few
        rw [hal.len]
        omega
      refine g_nil (g_app (by walk_at "hx") (by walk_at "sz") ?_)
      have e12 := e1.trans e2
      have hv : LtAt ⟨o.t + s, o.p, w.n, idx (namesOf m) g, k, t.val w.bx o.l o.t⟩ (.ref pT) H2 := ⟨pT, rfl, by rw [idx_at hin hk.nd]; exact hT⟩
      have z := ha2.addOut ho2 (hal.imp fun _ _ q => q.tx (Tx.ex e12)) hv
      generalize upd H2 o.out (.lst (us ++ [.ref pT])) = H3 at z
      have hs3 := z.1.self
      refine g_faug (g_v0 (g_faugA (by walk_at "hx") T.c_Doing T.n_posted (by walk_at "fl") (by exact of_decide_eq_true rfl) ?_))
      have z2 := z.1.setF w.c (w.n + 1)
      exact hq _ (((kp_ex e12).trans z.2).trans z2.2) z2.1
    | ite x y z =>
      unfold RwAt at hrw
      obtain ⟨c, v, p1, q1, us1, us2, rfl, hcc, hu1, hp1, hx, hq1, hy⟩ := hrw
      unfold Row.ok at hok
      unfold rowDo at hq
      unfold Row.cnt at hn hc
      unfold Row.deep at hd
      obtain ⟨k1, k2, k3⟩ := hok
      refine g_ifs (g_tst (g_op (g_op (g_v1 (g_c (g_ixT (by walk_at "hx") (show atI _ _ = some _ from rfl) (g_c (g_eqS (g_k (g_ifD0 (by decide +kernel) (g_ifs (g_tst (g_op (g_op (g_v1 (g_c (g_ixT (by walk_at "hx") (show atI _ _ = some _ from rfl) (g_c (g_eqS (g_k (g_ifD0 (by decide +kernel) (g_ifs (g_tst (g_op (g_op (g_v1 (g_c (g_ixT (by walk_at "hx") (show atI _ _ = some _ from rfl) (g_c (g_eqS (g_k (g_ifD0 (by decide +kernel) (g_drop (g_meth (g_v0 (g_methA (by walk_at "hx") (by walk_at "fl") (g_cons (g_if (g_tst (g_op (g_meth (g_v0 (g_methA (by walk_at "hx") (by walk_at "fl") (g_cons (g_op (g_v1 (g_c (g_ixT (by walk_at "hx") (show atI _ _ = some _ from rfl) (g_nil ?_)))))))))))))))))))))))))))))))))))))))))))))))))
      refine ⟨a, o, w.c, w, ns, x, v, rfl, ha, hw, hl, hu1, k1, ?_⟩
      refine g_c (g_eqI (g_k ?_))
      by_cases e : x.val w.bx o.l o.t = 0
      · rw [if_pos e] at hq
        refine g_ifD1 (e) (g_op (g_v1 (g_c (g_ixT (by walk_at "hx") (show atI _ _ = some _ from rfl) (g_nil ?_)))))
        exact ⟨a, o, w, ns, m, z, _, rfl, ha, hw, hl, hm, hk, ⟨q1, us2, rfl, hq1, hy.al⟩, k3, by omega, by omega, by omega, hp, hq⟩
      · rw [if_neg e] at hq
        refine g_ifD0 (e) (g_op (g_v1 (g_c (g_ixT (by walk_at "hx") (show atI _ _ = some _ from rfl) (g_nil ?_)))))
        exact ⟨a, o, w, ns, m, y, _, rfl, ha, hw, hl, hm, hk, ⟨p1, us1, rfl, hp1, hx.al⟩, k2, by omega, by omega, by omega, hp, hq⟩
end
end PM
/-! part F13 -/
namespace PM
open PySem PySem.Spec PyProof.Rows L2 PMH
open Evl (Ex)

local macro_rules | `(tactic| walk_at "ex") => `(tactic| first
  | with_reducible assumption
  | with_reducible exact Evl.Ex.refl _
  | (refine Evl.Ex.trans ?_ (by with_reducible assumption); walk_at "ex"))
local macro_rules | `(tactic| walk_at "hx") => `(tactic| first
  | with_reducible assumption
  | (refine At.ex (by with_reducible assumption) ?_; walk_at "ex")
  | (refine Fz.tx (by with_reducible assumption) ?_; walk_at "tx")
  | (refine TrAt.ex (by with_reducible assumption) ?_; walk_at "ex")
  | (refine MlAt.tx ?_ (by with_reducible assumption); walk_at "tx")
  | (refine PlAt.tx ?_ (by with_reducible assumption); walk_at "tx")
  | (refine LtAt.tx ?_ (by with_reducible assumption); walk_at "tx")
  | (refine GvAt.tx ?_ (by with_reducible assumption); walk_at "tx")
  | (refine WsAt.tx ?_ (by with_reducible assumption); walk_at "tx")
  | (refine RwAt.tx ?_ _ _ (by with_reducible assumption); walk_at "tx")
  | (refine RwsAt.tx ?_ _ _ (by with_reducible assumption); walk_at "tx")
  | (refine RuAt.tx ?_ (by with_reducible assumption); walk_at "tx")
  | (refine PrAt.tx ?_ (by with_reducible assumption); walk_at "tx"))
local macro_rules | `(tactic| walk_at "num") => `(tactic| first
  | with_reducible assumption
  | decide
  | exact Or.inl ⟨by omega, by omega⟩
  | exact Or.inr ⟨by omega, by omega⟩
  | (refine ⟨?_, ?_⟩ <;> omega)
  | (show (0 : Int) < _; omega))
local macro_rules | `(tactic| walk_at "tx") => `(tactic| first
  | with_reducible assumption
  | (refine Tx.ex ?_; walk_at "ex"))
local macro_rules | `(tactic| walk_at "sz") => `(tactic| first
  | with_reducible assumption
  | omega
  | (refine Evl.sz_of ?_; omega)
  | (refine Evl.sz_lt ?_; omega))
local macro_rules | `(tactic| walk_at "fl") => `(tactic| first
  | rfl
  | decide +kernel)

local macro_rules | `(tactic| walk_at "mi") => `(tactic| first
  | with_reducible assumption
  | (refine MiAt.ex (by with_reducible assumption) ?_; walk_at "ex"))
section
variable {P : Program} {w : World} {K : PySem.W.Frag} {mg : Str → Option Value} {base : Heap}
def sp_Doing_init (K : PySem.W.Frag) : Sp := fun vs H Q _ => ∃ (a dx mil : Addr) (m : List Pl) (p : Nat) (pl : Pl) (bx : Bx) (nb lv : V) (c n : Int) (l : Lt), vs = [.ref a, .ref mil, nb, .int c, .int n, lv, .non] ∧ At H a (.ins (He.ga K "Doing") dx []) ∧ MiAt K m mil H ∧ l.place = p ∧ m[p]? = some pl ∧ NbAt bx nb H ∧
  bx.map (·.1) = pl.boxes.map (·.1) ∧ (bx.map (·.1)).Nodup ∧ bx.length ≤ 1000 ∧ LtAt l lv H ∧ ∀ (d : Do) H', Kp [a] H H' → DoAt K a d 0 ⟨bx, c, n, []⟩ H' → d.mil = mil → d.t = l.time → d.p = p → d.l = l.load → H d.nums = none → H d.out = none → H d.man = none → Q .non H'
abbrev N_Doing_init : List Str := ["self", "mill", "numbers", "draws", "posted", "letter", "fixed", "name", "first"]
theorem sc_Doing_init : FnScope N_Doing_init ["self", "mill", "numbers", "draws", "posted", "letter", "fixed"] (defScope s_Doing_init) := ⟨rfl, rfl, rfl, by decide +kernel, rfl, by decide +kernel, by decide +kernel⟩
theorem ok_Doing_init (T : TX w K mg)  : Cl P w K mg base CX0 (3) "Doing" (He.ga K "Doing") ["self", "mill", "numbers", "draws", "posted", "letter", "fixed"] (sp_Doing_init K) := by
  have f_Mill_boxes := ok_Mill_boxes (P := P) (base := base) T
  obtain ⟨fd, F⟩ := T.d_Doing_init
  refine mk_cl F T.m_Doing T.g_Doing sc_Doing_init (fun vs H Q E h => by obtain ⟨_, _, _, _, _, _, _, _, _, _, _, _, rfl, _⟩ := h; rfl) (fun _ _ _ _ _ _ us hl => match us, hl with | [_, _, _, _, _, _, _], _ => rfl) (fun cdv A outer s H vs Q E hr h => ?_)
  obtain ⟨a, dx, mil, m, p, pl, bx, nb, lv, c, n, l, rfl, ha, hm, hp, hpl, hnb, hnm, hnd, hbl, hl, hq⟩ := h
  have hu := hu_of hr
  refine ⟨(tSeq (sFld K (tVar 0) (tVar 1) "mill") (tSeq (tAsg (tTup (tCons (tOp (rIxT K) (tVar 5) (tC (.int 0))) (tCons (tOp (rIxT K) (tVar 5) (tC (.int 3))) (tCons (tOp (rIxT K) (tVar 5) (tC (.int 5))) tNil)))) (gTup K 3 (gCons (gFldT K (tVar 0) "time") (gCons (gFldT K (tVar 0) "place") (gCons (gFldT K (tVar 0) "load") gNil))))) (tSeq (sFld K (tVar 0) (tDictZip K (tCons (tLc (iList K (tMeth (He.ga K "Mill") "boxes" (sp_Mill_boxes K) [] E0 (tVar 1) (tCons (tFld K (tVar 0) "place") tNil))) (gTup K 2 (gCons (gName 7) (gCons (gName 8) gNil))) tYes (tVar 7) [7, 8]) (tCons (tVar 2) tNil))) "numbers") (tSeq (sFld K (tVar 0) (tVar 3) "draws") (tSeq (sFld K (tVar 0) (tVar 4) "posted") (tSeq (sFld K (tVar 0) (tLst tNil) "out") (tSeq (sFld K (tVar 0) (tVar 6) "fixed") (sFld K (tVar 0) (tLst tNil) "manies")))))))),
      (pss_cons (ps_fld (pv 0) (pv 1) rfl)
      (pss_cons (ps_asg (pe_tup (pa_cons (pe_ix ix_tup (pv 5) pe_int (fun _ _ => rfl)) (pa_cons (pe_ix ix_tup (pv 5) pe_int (fun _ _ => rfl)) (pa_cons (pe_ix ix_tup (pv 5) pe_int (fun _ _ => rfl)) pa_nil)))) (pg_tup rfl (pgs_cons (pg_fld (pv 0)) (pgs_cons (pg_fld (pv 0)) (pgs_cons (pg_fld (pv 0)) pgs_nil)))))
      (pss_cons (ps_fld (pv 0) (pe_dictZip rfl (by rfl) T.b_dict (by rfl) T.b_zip (pa_cons (pe_lc (own := [("name", 7), ("first", 8)]) (wi := (iList K (tMeth (He.ga K "Mill") "boxes" (sp_Mill_boxes K) [] E0 (tVar 1) (tCons (tFld K (tVar 0) "place") tNil)))) (g := (gTup K 2 (gCons (gName 7) (gCons (gName 8) gNil)))) (tt := tYes) (te := (tVar 7)) rfl sc_Doing_init.nd (pi_list (f_Mill_boxes.ex.elim fun _ q => q.elim fun _ q => pe_meth (pv 1) T.c_Mill q.2.1 q.1 (hr.mono (by omega)) q.2.2 .nil pass0 (pa_cons (pe_fld (pv 0) rfl) pa_nil))) (blkOk_by (N := N_Doing_init) (sc := defScope s_Doing_init) (by decide +kernel)) (fun _ _ _ _ _ => (pg_tup rfl (pgs_cons (pg_name (i := 7) sc_Doing_init.nd rfl (Or.inl rfl)) (pgs_cons (pg_name (i := 8) sc_Doing_init.nd rfl (Or.inl rfl)) pgs_nil)))) (fun _ _ _ _ _ => pts_nil) (fun _ _ _ _ _ => (pv 7))) (pa_cons (pv 2) pa_nil))) rfl)
      (pss_cons (ps_fld (pv 0) (pv 3) rfl)
      (pss_cons (ps_fld (pv 0) (pv 4) rfl)
      (pss_cons (ps_fld (pv 0) (pe_lst pa_nil) rfl)
      (pss_cons (ps_fld (pv 0) (pv 6) rfl)
      (pss_one (ps_fld (pv 0) (pe_lst pa_nil) rfl))))))))), ?_⟩
  refine g_start (σ' := [some _, some _, some _, some _, some _, some _, some _, none, none]) rfl ?_
  obtain ⟨lt, sd, nu, pc, kd, ld⟩ := l
  simp only at hp hq
  subst hp
  obtain ⟨lc, rfl, hlc⟩ := hl
  obtain ⟨nc, rfl, hnc⟩ := hnb
  obtain ⟨dxm, trm, hins⟩ := hm.ins
  have hma : mil ≠ a := hins.ne ha (by intro z; simp at z)
  refine g_seq (g_sf (g_v1 (g_v0 (g_gfldA (by walk_at "hx") T.c_Doing T.n_mill (by exact of_decide_eq_true rfl) ?_))))
  refine g_upd (fun H1 k1 h1 => ?_)
  have hlc1 := hlc.tx (kp_tx k1 ha)
  refine g_seq (g_asg (g_tup (g_cons (g_op (g_v5 (g_c (g_ixT (by walk_at "hx") (show atI _ _ = some _ from rfl) (g_cons (g_op (g_v5 (g_c (g_ixT (by walk_at "hx") (show atI _ _ = some _ from rfl) (g_cons (g_op (g_v5 (g_c (g_ixT (by walk_at "hx") (show atI _ _ = some _ from rfl) (g_nil ?_))))))))))))))))))
  refine g_tupN (by simp) (fun Tu H2 n2 e2 hT => ?_)
  have h2 := h1.ex e2
  refine g_gtup (by walk_at "hx") rfl (g_gcons (g_gfld (g_v0 (g_gfldA (by walk_at "hx") T.c_Doing T.n_time (by exact of_decide_eq_true rfl) ?_))))
  refine g_updG (fun H3 k3 h3 => ?_)
  refine g_gcons (g_gfld (g_v0 (g_gfldA (by walk_at "hx") T.c_Doing T.n_place (by exact of_decide_eq_true rfl) ?_)))
  refine g_updG (fun H4 k4 h4 => ?_)
  refine g_gcons (g_gfld (g_v0 (g_gfldA (by walk_at "hx") T.c_Doing T.n_load (by exact of_decide_eq_true rfl) ?_)))
  refine g_updG (fun H5 k5 h5 => ?_)
  have k05 : Kp [a] H H5 := (((k1.trans (kp_ex e2)).trans k3).trans k4).trans k5
  have t05 := kp_tx k05 ha
  have hm5 : MiAt K m mil H5 := hm.kp k05 (by simpa using hma) t05
  obtain ⟨dx5, tr5, hins5⟩ := hm5.ins
  refine g_gnil (g_seq (g_sf (g_dzip (g_cons (g_lcL (g_meth (g_v1 (g_methA (by walk_at "hx") (by walk_at "fl") (g_cons (g_fld (g_v0 (g_fldA (by walk_at "hx") T.c_Doing T.n_place (by walk_at "fl") (g_nil ?_)))))))))))))
  refine ⟨mil, m, p, pl, rfl, hm5, hpl, fun q us H6 n6 e6 h6 hal => ?_⟩
  have hll : pl.boxes.length ≤ 1000 := by
    have e := congrArg List.length hnm
    rw [List.length_map, List.length_map] at e
    omega
  refine lc_mapL (R := PrAt) (ds := pl.boxes) (h := fun p => .str p.1) h6 hal (by omega) (fun r u H1 e h => h.tx (Tx.ex e)) (fun q hm4 u H4 e4 hR4 Y4 N4 hY4 => ?_) (fun D H7 n7 e7 hD => ?_)
  · obtain ⟨d4, rfl, hd4⟩ := hR4
    refine g_gtup (by walk_at "hx") rfl (g_gcons (g_n7 (g_gcons (g_n8 (g_gnil (And.intro rfl (g_yes (g_iteT (g_v7 ?_)))))))))
    exact hY4 _ (Evl.Ex.refl _)
  ·
    refine g_cons (g_v2 (g_nil ?_))
    have e57 := e6.trans e7
    have hnc7 := (hnc.tx t05).ex e57
    refine g_dzipA (bx := bx) (by rw [hnm, sV_map]; exact hD) hnc7 hnd (fun B H8 n8 e8 hB => ?_)
    have e58 := e57.trans e8
    have h8 := h5.ex e58
    refine g_v0 (g_gfldA (by walk_at "hx") T.c_Doing T.n_numbers (by exact of_decide_eq_true rfl) ?_)
    refine g_upd (fun H9 k9 h9 => ?_)
    refine g_seq (g_sf (g_v3 (g_v0 (g_gfldA (by walk_at "hx") T.c_Doing T.n_draws (by exact of_decide_eq_true rfl) ?_))))
    refine g_upd (fun H10 k10 h10 => ?_)
    refine g_seq (g_sf (g_v4 (g_v0 (g_gfldA (by walk_at "hx") T.c_Doing T.n_posted (by exact of_decide_eq_true rfl) ?_))))
    refine g_upd (fun H11 k11 h11 => ?_)
    refine g_seq (g_sf (g_lst (g_nil ?_)))
    refine g_lstN (by simp) (fun O H12 n12 e12 hO => ?_)
    have h12 := h11.ex e12
    refine g_v0 (g_gfldA (by walk_at "hx") T.c_Doing T.n_out (by exact of_decide_eq_true rfl) ?_)
    refine g_upd (fun H13 k13 h13 => ?_)
    refine g_seq (g_sf (g_v6 (g_v0 (g_gfldA (by walk_at "hx") T.c_Doing T.n_fixed (by exact of_decide_eq_true rfl) ?_))))
    refine g_upd (fun H14 k14 h14 => ?_)
    refine g_sf (g_lst (g_nil ?_))
    refine g_lstN (by simp) (fun M H15 n15 e15 hM => ?_)
    have h15 := h14.ex e15
    refine g_v0 (g_gfldA (by walk_at "hx") T.c_Doing T.n_manies (by exact of_decide_eq_true rfl) ?_)
    refine g_upd (fun H16 k16 h16 => ?_)
    have hBa : B ≠ a := hB.ne h8 (by intro z; cases z)
    have hOa : O ≠ a := hO.ne h12 (by intro z; cases z)
    have hMa : M ≠ a := hM.ne h15 (by intro z; cases z)
    have k815 : Kp [a] H8 H15 := ((((k9.trans k10).trans (k11.trans (kp_ex e12))).trans k13).trans k14).trans (kp_ex e15)
    have k1216 : Kp [a] H12 H16 := ((k13.trans k14).trans (kp_ex e15)).trans k16
    have k011 : Kp [a] H H11 := (k05.trans (kp_ex e58)).trans ((k9.trans k10).trans k11)
    have k014 : Kp [a] H H14 := ((k011.trans (kp_ex e12)).trans k13).trans k14
    have kn : ∀ {G : Hp} {x : Addr}, Kp [a] H G → G x = none → x ≠ a → H x = none := fun {G x} k h n => by
      cases q : H x with
      | none => rfl
      | some o =>
        have := k x o q (by simpa using n)
        rw [h] at this
        cases this
    refine hq ⟨mil, B, O, M, dx, lt, p, ld⟩ H16 ((k014.trans (kp_ex e15)).trans k16) ⟨h16, hB.kp (k815.trans k16) (by simpa using hBa), ⟨[], hO.kp k1216 (by simpa using hOa), rfl⟩, ⟨[], hM.kp k16 (by simpa using hMa), by simp⟩, ?_⟩ rfl rfl rfl rfl (kn (k05.trans (kp_ex e57)) n8 hBa) (kn k011 n12 hOa) (kn k014 n15 hMa)
    exact (hO.kp (((k13.trans k14)) ) (by simpa using hOa)).ne0 n15
end
end PM
/-! part F14 -/
namespace PM
open PySem PySem.Spec PyProof.Rows L2 PMH
open Evl (Ex)

local macro_rules | `(tactic| walk_at "ex") => `(tactic| first
  | with_reducible assumption
  | with_reducible exact Evl.Ex.refl _
  | (refine Evl.Ex.trans ?_ (by with_reducible assumption); walk_at "ex"))
local macro_rules | `(tactic| walk_at "hx") => `(tactic| first
  | with_reducible assumption
  | (refine At.ex (by with_reducible assumption) ?_; walk_at "ex")
  | (refine Fz.tx (by with_reducible assumption) ?_; walk_at "tx")
  | (refine TrAt.ex (by with_reducible assumption) ?_; walk_at "ex")
  | (refine MlAt.tx ?_ (by with_reducible assumption); walk_at "tx")
  | (refine PlAt.tx ?_ (by with_reducible assumption); walk_at "tx")
  | (refine LtAt.tx ?_ (by with_reducible assumption); walk_at "tx")
  | (refine GvAt.tx ?_ (by with_reducible assumption); walk_at "tx")
  | (refine WsAt.tx ?_ (by with_reducible assumption); walk_at "tx")
  | (refine RwAt.tx ?_ _ _ (by with_reducible assumption); walk_at "tx")
  | (refine RwsAt.tx ?_ _ _ (by with_reducible assumption); walk_at "tx")
  | (refine RuAt.tx ?_ (by with_reducible assumption); walk_at "tx")
  | (refine PrAt.tx ?_ (by with_reducible assumption); walk_at "tx"))
local macro_rules | `(tactic| walk_at "num") => `(tactic| first
  | with_reducible assumption
  | decide
  | exact Or.inl ⟨by omega, by omega⟩
  | exact Or.inr ⟨by omega, by omega⟩
  | (refine ⟨?_, ?_⟩ <;> omega)
  | (show (0 : Int) < _; omega))
local macro_rules | `(tactic| walk_at "tx") => `(tactic| first
  | with_reducible assumption
  | (refine Tx.ex ?_; walk_at "ex"))
local macro_rules | `(tactic| walk_at "sz") => `(tactic| first
  | with_reducible assumption
  | omega
  | (refine Evl.sz_of ?_; omega)
  | (refine Evl.sz_lt ?_; omega))
local macro_rules | `(tactic| walk_at "fl") => `(tactic| first
  | rfl
  | decide +kernel)

local macro_rules | `(tactic| walk_at "mi") => `(tactic| first
  | with_reducible assumption
  | (refine MiAt.ex (by with_reducible assumption) ?_; walk_at "ex"))
/-! ### the state after a letter -/
def rulesAt (m : List Pl) (p : Nat) : List (Nm × List Row) := ((m[p]?).map (·.rules)).getD []
def workOf (m : List Pl) (s : MS) (l : Lt) : WS := rowsDo (namesOf m) l.place.toNat l.time l.load (ruleOf (rulesAt m l.place.toNat) l.kind) ⟨s.boxes.getD l.place.toNat [], s.drawn.getD l.place.toNat 0, s.sent.getD l.place.toNat 0, []⟩
def afterOf (s : MS) (l : Lt) (p : Nat) (w : WS) : MS := ⟨s.boxes.set p w.bx, s.drawn.set p w.c, s.sent.set p w.n, sortL (s.wait.filter (fun o => !decide (o = l)) ++ w.out)⟩
def doneOf (m : List Pl) (s : MS) (l : Lt) : MS := afterOf s l l.place.toNat (workOf m s l)
/-- what a state in the run is -/
structure MOk (m : List Pl) (s : MS) (j : Nat) : Prop where
  bl : s.boxes.length = m.length
  dl : s.drawn.length = m.length
  sl : s.sent.length = m.length
  bx : ∀ (p : Nat) (b : Bx) (pl : Pl), s.boxes[p]? = some b → m[p]? = some pl → b.map (·.1) = pl.boxes.map (·.1) ∧ BxOk b
  dr : ∀ c ∈ s.drawn, 0 ≤ c ∧ c ≤ 12 * (j : Int)
  sn : ∀ c ∈ s.sent, 0 ≤ c ∧ c ≤ 12 * (j : Int)
  wt : ∀ l ∈ s.wait, (∃ p : Nat, l.place = p ∧ p < m.length) ∧ l.kind ∈ kinds ∧ 0 ≤ l.load ∧ l.load < 100
  wl : s.wait.length ≤ 8 + 12 * j
section
variable {P : Program} {w : World} {K : PySem.W.Frag} {mg : Str → Option Value} {base : Heap}
def sp_put_at : Sp := fun vs H Q _ => ∃ (a : Addr) (xs : List V) (i : Nat) (v : V), vs = [.ref a, .int (i : Nat), v] ∧ At H a (.tup xs) ∧ i < xs.length ∧ xs.length ≤ 100 ∧ ∀ p H', Ex H H' → At H' p (.tup (xs.set i v)) → Q (.ref p) H'
abbrev N_put_at : List Str := ["row", "place", "thing"]
theorem sc_put_at : FnScope N_put_at ["row", "place", "thing"] (defScope s_put_at) := ⟨rfl, rfl, rfl, by decide +kernel, rfl, by decide +kernel, by decide +kernel⟩
theorem ok_put_at (T : TX w K mg)  : Fn P w K mg base CX0 (1) "put_at" ["row", "place", "thing"] (sp_put_at) := by
  obtain ⟨fd, F⟩ := T.d_put_at
  refine mk_fn F T.g_put_at sc_put_at (fun vs H Q E h => by obtain ⟨_, _, _, _, rfl, _⟩ := h; rfl) (fun _ _ _ _ _ _ us hl => match us, hl with | [_, _, _], _ => rfl) (fun cdv A outer s H vs Q E hr h => ?_)
  obtain ⟨a, xs, i, v, rfl, ha, hi, hl, hq⟩ := h
  have hu := hu_of hr
  refine ⟨(tRet (tOp (rCatA K) (tOp (rCatA K) (tSl (rSlA K) (tVar 0) tNoPart (tPart (tVar 1))) (tTup (tCons (tVar 2) tNil))) (tSl (rSlA K) (tVar 0) (tPart (tOp rAddI (tVar 1) (tC (.int 1)))) tNoPart))),
      (pss_one (ps_ret (pe_op op_catA (pe_op op_catA (pe_slice sl_tupA (pv 0) po_none (po_some (pv 1))) (pe_tup (pa_cons (pv 2) pa_nil))) (pe_slice sl_tupA (pv 0) (po_some (pe_op op_add (pv 1) pe_int)) po_none)))), ?_⟩
  refine g_start (σ' := [some _, some _, some _]) rfl ?_
  refine g_ret (g_op (g_op (g_sl (g_v0 (g_po0 (g_po (g_v1 (g_poI ?_))))))))
  refine g_slT2 ha (fun p1 H1 e1 hp1 => ?_) cut_whole
  rw [cut_lo] at hp1
  refine g_tup (g_cons (g_v2 (g_nil ?_)))
  refine g_tupN (by simp) (fun p2 H2 n2 e2 hp2 => ?_)
  refine g_catA (hp1.ex e2) hp2 (by simp; omega) (fun p3 H3 e3 hp3 => ?_)
  refine g_sl (g_v0 (g_po (g_op (g_v1 (g_c (g_I0 (g_poI (g_po0 ?_))))))))
  refine g_slT2 (ha.ex (e1.trans (e2.trans e3))) (fun p4 H4 e4 hp4 => ?_) cut_whole
  rw [show ((i : Int) + 1) = ((i + 1 : Nat) : Int) by omega, cut_hi] at hp4
  refine g_catA (hp3.ex e4) hp4 (by simp; omega) (fun p5 H5 e5 hp5 => ?_)
  rw [set_cut xs v hi] at hp5
  exact hq p5 H5 (e1.trans (e2.trans (e3.trans (e4.trans e5)))) hp5
def sp_doing_of (K : PySem.W.Frag) : Sp := fun vs H Q _ => ∃ (mil : Addr) (m : List Pl) (s : MS) (j : Nat) (sv : V) (l : Lt) (lv : V), vs = [.ref mil, sv, lv, .non] ∧ MiAt K m mil H ∧ MlOk m ∧ StAt s sv H ∧ MOk m s j ∧ j ≤ 100 ∧ LtAt l lv H ∧ l ∈ s.wait ∧
  ∀ a d H', Ex H H' → DoAt K a d (workOf m s l).c (workOf m s l) H' → Q (.ref a) H'
/-- the place of a letter and what stands there -/
theorem MOk.here {m : List Pl} {s : MS} {j : Nat} {l : Lt} (hk : MlOk m) (h : MOk m s j) (hl : l ∈ s.wait) : ∃ (p : Nat) (pl : Pl) (b : Bx) (c n : Int), l.place = p ∧ l.place.toNat = p ∧ m[p]? = some pl ∧ s.boxes[p]? = some b ∧ s.drawn[p]? = some c ∧ s.sent[p]? = some n ∧
    workOf m s l = rowsDo (namesOf m) p l.time l.load (ruleOf pl.rules l.kind) ⟨b, c, n, []⟩ ∧ WOk (pl.boxes.map (·.1)) ⟨b, c, n, []⟩ ∧ c ≤ 12 * (j : Int) ∧ n ≤ 12 * (j : Int) ∧ (0 ≤ l.load ∧ l.load < 100) ∧ PlOk (namesOf m) pl ∧ Row.oks (pl.boxes.map (·.1)) (namesOf m) (ruleOf pl.rules l.kind) ∧ Row.deeps (ruleOf pl.rules l.kind) ≤ 3 ∧ Row.cnts (ruleOf pl.rules l.kind) ≤ 12 := by
  obtain ⟨⟨p, hp, hpm⟩, hkd, l0, l1⟩ := h.wt l hl
  obtain ⟨pl, e1⟩ : ∃ pl : Pl, m[p]? = some pl := ⟨_, List.getElem?_eq_getElem hpm⟩
  obtain ⟨bb, e2⟩ : ∃ b : Bx, s.boxes[p]? = some b := ⟨_, List.getElem?_eq_getElem (show p < s.boxes.length by rw [h.bl]; exact hpm)⟩
  obtain ⟨cc, e3⟩ : ∃ c : Int, s.drawn[p]? = some c := ⟨_, List.getElem?_eq_getElem (show p < s.drawn.length by rw [h.dl]; exact hpm)⟩
  obtain ⟨nn, e4⟩ : ∃ n : Int, s.sent[p]? = some n := ⟨_, List.getElem?_eq_getElem (show p < s.sent.length by rw [h.sl]; exact hpm)⟩
  have hpl := hk.pl pl (List.mem_of_getElem? e1)
  have ht : l.place.toNat = p := by rw [hp]; simp
  have b := h.bx p _ _ e2 e1
  have d := h.dr _ (List.mem_of_getElem? e3)
  have n := h.sn _ (List.mem_of_getElem? e4)
  have hru : Row.oks (pl.boxes.map (·.1)) (namesOf m) (ruleOf pl.rules l.kind) ∧ Row.deeps (ruleOf pl.rules l.kind) ≤ 3 ∧ Row.cnts (ruleOf pl.rules l.kind) ≤ 12 := by
    unfold ruleOf
    cases q : pl.rules.lookup l.kind with
    | none => exact ⟨by simp only [Option.getD_none, Row.oks], by simp only [Option.getD_none, Row.deeps]; omega, by simp only [Option.getD_none, Row.cnts]; omega⟩
    | some rs =>
      have := hpl.rules _ (PySem.mem_of_lookup q)
      exact ⟨this.2.1, this.2.2.1, this.2.2.2.1⟩
  refine ⟨p, pl, bb, cc, nn, hp, ht, e1, e2, e3, e4, ?_, ⟨b.1, b.2, d.1, n.1, by simpa using n.1, (fun x hx => by cases hx), by rw [List.length_map]; have := hpl.few; omega⟩, d.2, n.2, ⟨l0, l1⟩, hpl, hru⟩
  unfold workOf rulesAt
  rw [ht, e1, List.getD_eq_getElem?_getD, e2, List.getD_eq_getElem?_getD, e3, List.getD_eq_getElem?_getD, e4]
  rfl
abbrev N_doing_of : List Str := ["mill", "state", "letter", "fixed", "boxes", "drawn", "posted", "waiting", "place", "found"]
theorem sc_doing_of : FnScope N_doing_of ["mill", "state", "letter", "fixed"] (defScope s_doing_of) := ⟨rfl, rfl, rfl, by decide +kernel, rfl, by decide +kernel, by decide +kernel⟩
theorem ok_doing_of (T : TX w K mg)  : Fd P w K mg base CX0 (22) "doing_of" ["mill", "state", "letter", "fixed"] [.non] (sp_doing_of K) := by
  have f_Doing_init := ok_Doing_init (P := P) (base := base) T
  have f_Doing_do_rows := ok_Doing_do_rows (P := P) (base := base) T 3 (ok_Doing_do_row T 3)
  have f_Mill_rule := ok_Mill_rule (P := P) (base := base) T
  obtain ⟨fd, F⟩ := T.d_doing_of
  refine mk_fnD F T.g_doing_of sc_doing_of (fun vs H Q E h => by obtain ⟨_, _, _, _, _, _, _, rfl, _⟩ := h; rfl) (fun _ _ _ _ _ _ _ us its h1 h2 => match us, its, h1, h2 with | [_, _, _], [_], _, _ => ⟨_, rfl, rfl⟩) (fun cdv A outer s H vs Q E hr h => ?_)
  obtain ⟨mil, m, s, j, sv, l, lv, rfl, hm, hk, hs, ho, hj, hl, hlw, hq⟩ := h
  have hu := hu_of hr
  refine ⟨(tSeq (tAsg (tVar 1) (gTup K 4 (gCons (gName 4) (gCons (gName 5) (gCons (gName 6) (gCons (gName 7) gNil)))))) (tSeq (tAsg (tOp (rIxT K) (tVar 2) (tC (.int 3))) (gName 8)) (tSeq (tAsg (tMake (He.ga K "Doing") (sp_Doing_init K) [] E0 (tCons (tVar 0) (tCons (tOp (rIxT K) (tVar 4) (tVar 8)) (tCons (tOp (rIxT K) (tVar 5) (tVar 8)) (tCons (tOp (rIxT K) (tVar 6) (tVar 8)) (tCons (tVar 2) (tCons (tVar 3) tNil))))))) (gName 9)) (tSeq (tDrop (tMeth (He.ga K "Doing") "do_rows" (sp_Doing_do_rows K 3) [] E0 (tVar 9) (tCons (tMeth (He.ga K "Mill") "rule" (sp_Mill_rule K) [] E0 (tVar 0) (tCons (tVar 8) (tCons (tOp (rIxT K) (tVar 2) (tC (.int 4))) tNil))) tNil))) (tRet (tVar 9)))))),
      (pss_cons (ps_asg (pv 1) (pg_tup rfl (pgs_cons (pg_name (i := 4) sc_doing_of.nd rfl (Or.inl rfl)) (pgs_cons (pg_name (i := 5) sc_doing_of.nd rfl (Or.inl rfl)) (pgs_cons (pg_name (i := 6) sc_doing_of.nd rfl (Or.inl rfl)) (pgs_cons (pg_name (i := 7) sc_doing_of.nd rfl (Or.inl rfl)) pgs_nil))))))
      (pss_cons (ps_set (i := 8) sc_doing_of.nd rfl (Or.inl rfl) (pe_ix ix_tup (pv 2) pe_int (fun _ _ => rfl)))
      (pss_cons (ps_set (i := 9) sc_doing_of.nd rfl (Or.inl rfl) (f_Doing_init.ex.elim fun _ q => q.elim fun _ q => pe_make q.2.1 q.1 (hr.mono (by omega)) (by rfl) q.2.2.1 q.2.2.2 .nil pass0 (pa_cons (pv 0) (pa_cons (pe_ix ix_tup (pv 4) (pv 8) (fun _ _ => rfl)) (pa_cons (pe_ix ix_tup (pv 5) (pv 8) (fun _ _ => rfl)) (pa_cons (pe_ix ix_tup (pv 6) (pv 8) (fun _ _ => rfl)) (pa_cons (pv 2) (pa_cons (pv 3) pa_nil))))))))
      (pss_cons (ps_expr (f_Doing_do_rows.ex.elim fun _ q => q.elim fun _ q => pe_meth (pv 9) T.c_Doing q.2.1 q.1 (hr.mono (by omega)) q.2.2 .nil pass0 (pa_cons (f_Mill_rule.ex.elim fun _ q => q.elim fun _ q => pe_meth (pv 0) T.c_Mill q.2.1 q.1 (hr.mono (by omega)) q.2.2 .nil pass0 (pa_cons (pv 8) (pa_cons (pe_ix ix_tup (pv 2) pe_int (fun _ _ => rfl)) pa_nil))) pa_nil)))
      (pss_one (ps_ret (pv 9))))))), ?_⟩
  refine g_start (σ' := [some _, some _, some _, some _, none, none, none, none, none, none]) rfl ?_
  obtain ⟨sa, bv, dv, pv', wv, rfl, hsa, ⟨ba, bs, rfl, hba, hbal⟩, ⟨da, rfl, hda⟩, ⟨pa, rfl, hpa⟩, hw⟩ := hs
  obtain ⟨p, pl, b, c, n, e1, e2, e3, e4, e5, e6, ew, wok, hc, hn, hl0, hpl, r1, r2, r3⟩ := ho.here hk hlw
  obtain ⟨la, rfl, hla⟩ := id hl
  obtain ⟨lt, sd, nu, pc, kd, ld⟩ := l
  simp only at e1 hla hl0 r1 r2 r3
  subst e1
  obtain ⟨u, hu1, hu2⟩ := hbal.at e4
  obtain ⟨dxm, trm, hins⟩ := hm.ins
  refine g_seq (g_asg (g_v1 (g_gtup (by walk_at "hx") rfl (g_gcons (g_n4 (g_gcons (g_n5 (g_gcons (g_n6 (g_gcons (g_n7 (g_gnil (g_seq (g_asg (g_op (g_v2 (g_c (g_ixT (by walk_at "hx") (show atI _ _ = some _ from rfl) (g_n8 (g_seq (g_asg (g_make (g_cons (g_v0 (g_cons (g_op (g_v4 (g_v8 ?_))))))))))))))))))))))))))))
  refine g_ixT hba (at_nat hu1) ?_
  refine g_cons (g_op (g_v5 (g_v8 ?_)))
  refine g_ixT hda (at_nat (v := .int c) (by unfold isV; rw [List.getElem?_map, e5]; rfl)) ?_
  refine g_cons (g_op (g_v6 (g_v8 ?_)))
  refine g_ixT hpa (at_nat (v := .int n) (by unfold isV; rw [List.getElem?_map, e6]; rfl)) ?_
  refine g_cons (g_v2 (g_cons (g_v3 (g_nil ?_))))
  intro x dx nx0 ndx hdx
  have exx : Ex H (upd (upd H dx (.own x)) x (.ins (He.ga K "Doing") dx [])) := by
    refine (ex_new ndx).trans (ex_new ?_)
    rw [upd_ne (Ne.symm hdx)]
    exact nx0
  have hx : At (upd (upd H dx (.own x)) x (.ins (He.ga K "Doing") dx [])) x (.ins (He.ga K "Doing") dx []) := at_new
  generalize upd (upd H dx (.own x)) x (.ins (He.ga K "Doing") dx []) = H1 at exx hx
  refine ⟨x, dx, mil, m, p, pl, b, u, .ref la, c, n, ⟨lt, sd, nu, p, kd, ld⟩, rfl, hx, hm.ex exx, rfl, e3, hu2.tx (Tx.ex exx), wok.names, by rw [wok.names]; exact hpl.nd, ?_, hl.tx (Tx.ex exx), fun d H2 k2 d2 q1 q2 q3 q4 f1 f2 f3 => ⟨rfl, ?_⟩⟩
  · have e : b.length = pl.boxes.length := by
      have := congrArg List.length wok.names
      simpa using this
    have := hpl.few
    omega
  have hmx : mil ≠ x := (hins.ex exx).ne hx (by intro z; simp at z)
  have ex2 : Ex H H2 := ex_kp exx k2 (by simpa using nx0)
  have hm2 : MiAt K m mil H2 := hm.ex ex2
  obtain ⟨dx2, tr2, hins2⟩ := hm2.ins
  have hs2 := d2.self
  refine g_n9 (g_seq (g_drop (g_meth (g_v9 (g_methA (by walk_at "hx") (by walk_at "fl") (g_cons (g_meth (g_v0 (g_methA (by walk_at "hx") (by walk_at "fl") (g_cons (g_v8 (g_cons (g_op (g_v2 (g_c (g_ixT (by walk_at "hx") (show atI _ _ = some _ from rfl) (g_nil ?_)))))))))))))))))
  refine ⟨mil, m, p, pl, kd, rfl, hm2, e3, by have := hpl.rfew; omega, fun v H3 e3' hv => ?_⟩
  have ex3 := ex2.trans e3'
  refine g_nil ?_
  refine ⟨x, d, ⟨b, c, n, []⟩, _, m, ruleOf pl.rules kd, v, rfl, (d2.ex e3').more wok.c0, wok, by rw [q4]; exact hl0, by rw [q1]; exact hm.ex ex3, hk, hv, r1, r2, by show c + _ ≤ 9000; omega, by show n + _ ≤ 9000; omega, by rw [q3]; have := (List.getElem?_eq_some_iff.mp e3).1; have := hk.most; omega, fun H4 k4 d4 => ?_⟩
  refine g_ret (g_v9 ?_)
  rw [q2, q3, q4] at d4
  rw [ew] at hq
  refine hq x d H4 (ex_kp ex3 k4 ?_) d4
  have back : ∀ y, H1 y = none → H y = none := fun y h => fresh_back exx h
  intro y hy
  simp only [Do.R, List.mem_cons, List.not_mem_nil, or_false] at hy
  rcases hy with rfl | rfl | rfl | rfl
  · exact nx0
  · exact back _ f1
  · exact back _ f2
  · exact back _ f3
end
end PM
/-! part F15 -/
namespace PM
open PySem PySem.Spec PyProof.Rows L2 PMH
open Evl (Ex)

local macro_rules | `(tactic| walk_at "ex") => `(tactic| first
  | with_reducible assumption
  | with_reducible exact Evl.Ex.refl _
  | (refine Evl.Ex.trans ?_ (by with_reducible assumption); walk_at "ex"))
local macro_rules | `(tactic| walk_at "hx") => `(tactic| first
  | with_reducible assumption
  | (refine At.ex (by with_reducible assumption) ?_; walk_at "ex")
  | (refine Fz.tx (by with_reducible assumption) ?_; walk_at "tx")
  | (refine TrAt.ex (by with_reducible assumption) ?_; walk_at "ex")
  | (refine MlAt.tx ?_ (by with_reducible assumption); walk_at "tx")
  | (refine PlAt.tx ?_ (by with_reducible assumption); walk_at "tx")
  | (refine LtAt.tx ?_ (by with_reducible assumption); walk_at "tx")
  | (refine GvAt.tx ?_ (by with_reducible assumption); walk_at "tx")
  | (refine WsAt.tx ?_ (by with_reducible assumption); walk_at "tx")
  | (refine RwAt.tx ?_ _ _ (by with_reducible assumption); walk_at "tx")
  | (refine RwsAt.tx ?_ _ _ (by with_reducible assumption); walk_at "tx")
  | (refine RuAt.tx ?_ (by with_reducible assumption); walk_at "tx")
  | (refine PrAt.tx ?_ (by with_reducible assumption); walk_at "tx"))
local macro_rules | `(tactic| walk_at "num") => `(tactic| first
  | with_reducible assumption
  | decide
  | exact Or.inl ⟨by omega, by omega⟩
  | exact Or.inr ⟨by omega, by omega⟩
  | (refine ⟨?_, ?_⟩ <;> omega)
  | (show (0 : Int) < _; omega))
local macro_rules | `(tactic| walk_at "tx") => `(tactic| first
  | with_reducible assumption
  | (refine Tx.ex ?_; walk_at "ex"))
local macro_rules | `(tactic| walk_at "sz") => `(tactic| first
  | with_reducible assumption
  | omega
  | (refine Evl.sz_of ?_; omega)
  | (refine Evl.sz_lt ?_; omega))
local macro_rules | `(tactic| walk_at "fl") => `(tactic| first
  | rfl
  | decide +kernel)

local macro_rules | `(tactic| walk_at "mi") => `(tactic| first
  | with_reducible assumption
  | (refine MiAt.ex (by with_reducible assumption) ?_; walk_at "ex"))
section
variable {P : Program} {w : World} {K : PySem.W.Frag} {mg : Str → Option Value} {base : Heap}
def sp_behind_doing (K : PySem.W.Frag) : Sp := fun vs H Q _ => ∃ (m : List Pl) (s : MS) (j : Nat) (sv : V) (l : Lt) (lv : V) (a : Addr) (d : Do) (k : Int) (w : WS), vs = [sv, lv, .ref a] ∧ MlOk m ∧ StAt s sv H ∧ MOk m s j ∧ j ≤ 100 ∧ LtAt l lv H ∧ l ∈ s.wait ∧ DoAt K a d k w H ∧ (∀ o ∈ w.out, o.kind ∈ kinds) ∧ w.out.length ≤ 5000 ∧
  ∀ v H', Ex H H' → StAt (afterOf s l l.place.toNat w) v H' → Q v H'
abbrev N_behind_doing : List Str := ["state", "letter", "doing", "boxes", "drawn", "posted", "waiting", "place", "later", "other"]
theorem sc_behind_doing : FnScope N_behind_doing ["state", "letter", "doing"] (defScope s_behind_doing) := ⟨rfl, rfl, rfl, by decide +kernel, rfl, by decide +kernel, by decide +kernel⟩
theorem ok_behind_doing (T : TX w K mg)  : Fn P w K mg base CX0 (2) "behind_doing" ["state", "letter", "doing"] (sp_behind_doing K) := by
  have f_put_at := ok_put_at (P := P) (base := base) T
  obtain ⟨fd, F⟩ := T.d_behind_doing
  refine mk_fn F T.g_behind_doing sc_behind_doing (fun vs H Q E h => by obtain ⟨_, _, _, _, _, _, _, _, _, _, rfl, _⟩ := h; rfl) (fun _ _ _ _ _ _ us hl => match us, hl with | [_, _, _], _ => rfl) (fun cdv A outer s H vs Q E hr h => ?_)
  obtain ⟨m, s, j, sv, l, lv, a, d, k, w, rfl, hk, hs, ho, hj, hl, hlw, ha, hok, hol, hq⟩ := h
  have hu := hu_of hr
  refine ⟨(tSeq (tAsg (tVar 0) (gTup K 4 (gCons (gName 3) (gCons (gName 4) (gCons (gName 5) (gCons (gName 6) gNil)))))) (tSeq (tAsg (tOp (rIxT K) (tVar 1) (tC (.int 3))) (gName 7)) (tSeq (tAsg (tCB (rSortLt K) (tCons (tOp rCat (tLc (iTup K (tVar 6)) (gName 9) (tTest (tOp (rNeD K) (tVar 9) (tVar 1))) (tVar 9) [9]) (tFld K (tVar 2) "out")) tNil)) (gName 8)) (tRet (tTup (tCons (tCall sp_put_at [] E0 (tCons (tVar 3) (tCons (tVar 7) (tCons (tTupVals (tFld K (tVar 2) "numbers")) tNil)))) (tCons (tCall sp_put_at [] E0 (tCons (tVar 4) (tCons (tVar 7) (tCons (tFld K (tVar 2) "draws") tNil)))) (tCons (tCall sp_put_at [] E0 (tCons (tVar 5) (tCons (tVar 7) (tCons (tFld K (tVar 2) "posted") tNil)))) (tCons (tCB (rTupS K) (tCons (tVar 8) tNil)) tNil))))))))),
      (pss_cons (ps_asg (pv 0) (pg_tup rfl (pgs_cons (pg_name (i := 3) sc_behind_doing.nd rfl (Or.inl rfl)) (pgs_cons (pg_name (i := 4) sc_behind_doing.nd rfl (Or.inl rfl)) (pgs_cons (pg_name (i := 5) sc_behind_doing.nd rfl (Or.inl rfl)) (pgs_cons (pg_name (i := 6) sc_behind_doing.nd rfl (Or.inl rfl)) pgs_nil))))))
      (pss_cons (ps_set (i := 7) sc_behind_doing.nd rfl (Or.inl rfl) (pe_ix ix_tup (pv 1) pe_int (fun _ _ => rfl)))
      (pss_cons (ps_set (i := 8) sc_behind_doing.nd rfl (Or.inl rfl) (pe_callB (cr_sortLt hr.units) (by rfl) T.b_sorted bt_sorted (pa_cons (pe_op op_cat (pe_lc (own := [("other", 9)]) (wi := (iTup K (tVar 6))) (g := (gName 9)) (tt := (tTest (tOp (rNeD K) (tVar 9) (tVar 1)))) (te := (tVar 9)) rfl sc_behind_doing.nd (pi_tup (pv 6)) (blkOk_by (N := N_behind_doing) (sc := defScope s_behind_doing) (by decide +kernel)) (fun _ _ _ _ _ => (pg_name (i := 9) sc_behind_doing.nd rfl (Or.inl rfl))) (fun _ _ _ _ _ => (pts_one (pt_cmpR (op_neD hr.units) (pv 9) (pv 1) (nomark _)))) (fun _ _ _ _ _ => (pv 9))) (pe_fld (pv 2) rfl)) pa_nil)))
      (pss_one (ps_ret (pe_tup (pa_cons (f_put_at.ex.elim fun _ q => q.elim fun _ q => pe_call q.1 (hr.mono (by omega)) (by rfl) q.2.1 q.2.2.1 q.2.2.2 .nil pass0 (pa_cons (pv 3) (pa_cons (pv 7) (pa_cons (pe_tupVals rfl (by rfl) T.b_tuple (pe_fld (pv 2) rfl)) pa_nil)))) (pa_cons (f_put_at.ex.elim fun _ q => q.elim fun _ q => pe_call q.1 (hr.mono (by omega)) (by rfl) q.2.1 q.2.2.1 q.2.2.2 .nil pass0 (pa_cons (pv 4) (pa_cons (pv 7) (pa_cons (pe_fld (pv 2) rfl) pa_nil)))) (pa_cons (f_put_at.ex.elim fun _ q => q.elim fun _ q => pe_call q.1 (hr.mono (by omega)) (by rfl) q.2.1 q.2.2.1 q.2.2.2 .nil pass0 (pa_cons (pv 5) (pa_cons (pv 7) (pa_cons (pe_fld (pv 2) rfl) pa_nil)))) (pa_cons (pe_callTy cl_tuple (by rfl) T.b_tuple bt_tuple (pa_cons (pv 8) pa_nil)) pa_nil)))))))))), ?_⟩
  refine g_start (σ' := [some _, some _, some _, none, none, none, none, none, none, none]) rfl ?_
  obtain ⟨sa, bv, dv, pv', wv, rfl, hsa, ⟨ba, bs, rfl, hba, hbal⟩, ⟨da, rfl, hda⟩, ⟨pa, rfl, hpa⟩, ⟨wa, ws, rfl, hwa, hwal⟩⟩ := hs
  obtain ⟨⟨p, hp, hpm⟩, hkd, l0, l1⟩ := ho.wt l hlw
  have hbl := ho.bl
  have hdl := ho.dl
  have hsl := ho.sl
  have hwl := ho.wl
  have hm4 := hk.most
  have ht : l.place.toNat = p := by rw [hp]; simp
  obtain ⟨la, rfl, hla⟩ := id hl
  obtain ⟨us, ho1, hal1⟩ := ha.out
  have hself := ha.self
  have hnums := ha.nums
  rw [hp] at hla
  refine g_seq (g_asg (g_v0 (g_gtup (by walk_at "hx") rfl (g_gcons (g_n3 (g_gcons (g_n4 (g_gcons (g_n5 (g_gcons (g_n6 (g_gnil (g_seq (g_asg (g_op (g_v1 (g_c (g_ixT (by walk_at "hx") (show atI _ _ = some _ from rfl) (g_n7 (g_seq (g_asg (g_cb (g_cons (g_op (g_lcT (g_v6 ?_))))))))))))))))))))))))))
  refine lc_pureT (R := LtAt) (S := LtAt) (ds := s.wait) (p := fun o => !decide (o = l)) (f := id) hwa hwal (by omega) (fun _ _ _ e h => h.tx (Tx.ex e)) (fun _ _ _ _ t h => h.tx t) (fun o hm u H1 e1 hR Y N hY hN => ?_) (fun D acc H1 n1 e1 hD hacc => ?_)
  · have hl1 := hl.tx (Tx.ex e1)
    have ok1 := ho.wt o hm
    refine g_n9 (And.intro rfl (g_tst (g_op (g_v9 (g_v1 ?_)))))
    refine g_neLt hR hl1 ok1.2.1 hkd ?_
    by_cases e : o = l
    · subst e
      refine g_k (g_ifN0 (rfl) ?_)
      exact hN _ (Evl.Ex.refl _) (by simp)
    ·
      refine g_k (g_ifN1 (e) (g_v9 ?_))
      exact hY _ _ (Evl.Ex.refl _) (by simp [e]) hR
  · have hself1 := hself.ex e1
    have ho1' := ho1.ex e1
    rw [List.map_id] at hacc
    have hal1' : Al LtAt w.out us H1 := hal1.imp fun _ _ z => z.tx (Tx.ex e1)
    have lf : (s.wait.filter fun o => !decide (o = l)).length ≤ s.wait.length := List.length_filter_le _ _
    refine g_fld (g_v2 (g_fldA (by walk_at "hx") T.c_Doing T.n_out (by walk_at "fl") ?_))
    refine g_cat hD ho1' (by rw [hacc.len, hal1.len]; omega) (fun C H2 n2 e2 hC => ?_)
    refine g_nil ?_
    refine g_sortLt hC ((hacc.append hal1').imp fun _ _ z => z.tx (Tx.ex e2)) (by rw [List.length_append]; omega) (fun S H3 us3 n3 e3 hS hal3 => ?_)
    have e13 := e1.trans (e2.trans e3)
    have hself3 := hself.ex e13
    refine g_n8 (g_ret (g_tup (g_cons (g_call (g_cons (g_v3 (g_cons (g_v7 (g_cons (g_tupvals (g_fld (g_v2 (g_fldA (by walk_at "hx") T.c_Doing T.n_numbers (by walk_at "fl") ?_)))))))))))))
    refine g_tupvalsA (hnums.ex e13) (fun B H4 n4 e4 hB => ?_)
    rw [bxK_snd] at hB
    have e14 := e13.trans e4
    refine g_nil ?_
    refine ⟨ba, bs, p, .ref B, rfl, hba.ex e14, by rw [hbal.len]; omega, by rw [hbal.len]; omega, fun b5 H5 e5 hb5 => ?_⟩
    have e15 := e14.trans e5
    have hself5 := hself.ex e15
    refine g_cons (g_call (g_cons (g_v4 (g_cons (g_v7 (g_cons (g_fld (g_v2 (g_fldA (by walk_at "hx") T.c_Doing T.n_draws (by walk_at "fl") (g_nil ?_))))))))))
    refine ⟨da, isV s.drawn, p, .int w.c, rfl, hda.ex e15, by unfold isV; rw [List.length_map]; omega, by unfold isV; rw [List.length_map]; omega, fun b6 H6 e6 hb6 => ?_⟩
    have e16 := e15.trans e6
    have hself6 := hself.ex e16
    refine g_cons (g_call (g_cons (g_v5 (g_cons (g_v7 (g_cons (g_fld (g_v2 (g_fldA (by walk_at "hx") T.c_Doing T.n_posted (by walk_at "fl") (g_nil ?_))))))))))
    refine ⟨pa, isV s.sent, p, .int w.n, rfl, hpa.ex e16, by unfold isV; rw [List.length_map]; omega, by unfold isV; rw [List.length_map]; omega, fun b7 H7 e7 hb7 => ?_⟩
    have e17 := e16.trans e7
    refine g_cons (g_cb (g_cons (g_v8 (g_nil ?_))))
    have hS7 : At H7 S (.lst us3) := hS.ex (e4.trans (e5.trans (e6.trans e7)))
    refine g_tupL hS7 (fun U H8 n8 e8 hU => ?_)
    refine g_nil ?_
    refine g_tupN (by simp) (fun R H9 n9 e9 hR => ?_)
    have e39 : Ex H3 H9 := (e4.trans (e5.trans (e6.trans e7))).trans (e8.trans e9)
    refine hq (.ref R) H9 (e17.trans (e8.trans e9)) ⟨R, _, _, _, _, rfl, hR, ⟨b5, _, rfl, hb5.ex ((e6.trans e7).trans (e8.trans e9)), ?_⟩, ⟨b6, rfl, ?_⟩, ⟨b7, rfl, ?_⟩, ⟨U, us3, rfl, hU.ex e9, hal3.imp fun _ _ z => z.tx (Tx.ex e39)⟩⟩
    · rw [ht]
      exact Al.set p (hbal.imp fun _ _ z => z.tx (Tx.ex (e13.trans e39))) ⟨B, rfl, hB.ex ((e5.trans (e6.trans e7)).trans (e8.trans e9))⟩
    · rw [ht]
      show At H9 b6 (.tup (isV (s.drawn.set p w.c)))
      unfold isV
      rw [List.map_set]
      exact hb6.ex (e7.trans (e8.trans e9))
    · rw [ht]
      show At H9 b7 (.tup (isV (s.sent.set p w.n)))
      unfold isV
      rw [List.map_set]
      exact hb7.ex (e8.trans e9)
def sp_behind (K : PySem.W.Frag) : Sp := fun vs H Q _ => ∃ (mil : Addr) (m : List Pl) (s : MS) (j : Nat) (sv : V) (l : Lt) (lv : V), vs = [.ref mil, sv, lv] ∧ MiAt K m mil H ∧ MlOk m ∧ StAt s sv H ∧ MOk m s j ∧ j ≤ 100 ∧ LtAt l lv H ∧ l ∈ s.wait ∧
  ∀ v H', Ex H H' → StAt (doneOf m s l) v H' → Q v H'
abbrev N_behind : List Str := ["mill", "state", "letter"]
theorem sc_behind : FnScope N_behind ["mill", "state", "letter"] (defScope s_behind) := ⟨rfl, rfl, rfl, by decide +kernel, rfl, by decide +kernel, by decide +kernel⟩
theorem ok_behind (T : TX w K mg)  : Fn P w K mg base CX0 (23) "behind" ["mill", "state", "letter"] (sp_behind K) := by
  have f_doing_of := ok_doing_of (P := P) (base := base) T
  have f_behind_doing := ok_behind_doing (P := P) (base := base) T
  obtain ⟨fd, F⟩ := T.d_behind
  refine mk_fn F T.g_behind sc_behind (fun vs H Q E h => by obtain ⟨_, _, _, _, _, _, _, rfl, _⟩ := h; rfl) (fun _ _ _ _ _ _ us hl => match us, hl with | [_, _, _], _ => rfl) (fun cdv A outer s H vs Q E hr h => ?_)
  obtain ⟨mil, m, s, j, sv, l, lv, rfl, hm, hk, hs, ho, hj, hl, hlw, hq⟩ := h
  have hu := hu_of hr
  refine ⟨(tRet (tCall (sp_behind_doing K) [] E0 (tCons (tVar 1) (tCons (tVar 2) (tCons (tCall (sp_doing_of K) [.non] E0 (tCons (tVar 0) (tCons (tVar 1) (tCons (tVar 2) tNil)))) tNil))))),
      (pss_one (ps_ret (f_behind_doing.ex.elim fun _ q => q.elim fun _ q => pe_call q.1 (hr.mono (by omega)) (by rfl) q.2.1 q.2.2.1 q.2.2.2 .nil pass0 (pa_cons (pv 1) (pa_cons (pv 2) (pa_cons (f_doing_of.ex.elim fun _ q => q.elim fun _ q => q.elim fun _ q => pe_call q.1 (hr.mono (by omega)) (by rfl) q.2.1 q.2.2.1 q.2.2.2.1 q.2.2.2.2 pass0 (pa_cons (pv 0) (pa_cons (pv 1) (pa_cons (pv 2) pa_nil)))) pa_nil)))))), ?_⟩
  refine g_start (σ' := [some _, some _, some _]) rfl ?_
  obtain ⟨p, pl, b, c, n, e1, e2, e3, e4, e5, e6, ew, wok, hc, hn, hl0, hpl, r1, r2, r3⟩ := ho.here hk hlw
  have W := rowsDo_ok (p := p) (t := l.time) hl0 (ruleOf pl.rules l.kind) ⟨b, c, n, []⟩ wok r1
  rw [← ew] at W
  refine g_ret (g_call (g_cons (g_v1 (g_cons (g_v2 (g_cons (g_callD (g_cons (g_v0 (g_cons (g_v1 (g_cons (g_v2 (g_nil ?_))))))))))))))
  refine ⟨mil, m, s, j, sv, l, lv, rfl, hm, hk, hs, ho, hj, hl, hlw, fun a d H1 x1 d1 => ?_⟩
  refine g_nil ?_
  have f1 := W.ok.few
  have f2 := W.n2
  exact ⟨m, s, j, sv, l, lv, a, d, _, workOf m s l, rfl, hk, hs.tx (Tx.ex x1), ho, hj, hl.tx (Tx.ex x1), hlw, d1, W.ok.kd, by simp only at f2; omega, fun v H2 x2 h2 => hq v H2 (x1.trans x2) h2⟩
end
end PM
/-! part PP -/
namespace PM
open PySem L2 PMH
/-! ### the plain run -/
def isSo (m : List Pl) (ws : Nm × Tr) (bs : List Bx) (t : Int) : Bool := !decide (ws.2.val (bs.getD (idx (namesOf m) ws.1) []) 0 t = 0)
def showRun (m : List Pl) (ws : Nm × Tr) (time : Int) : Nat → MS → Bool → Option Bool
  | 0, s, f => match s.wait with
    | [] => some f
    | l :: _ => if l.time ≤ time then none else some f
  | k + 1, s, f => match s.wait with
    | [] => some f
    | l :: _ => if l.time ≤ time then showRun m ws time k (doneOf m s l) (f || isSo m ws (doneOf m s l).boxes l.time) else some f
def shownOf (m : List Pl) (ws : Nm × Tr) (time : Int) (s : MS) : Option Bool := showRun m ws time 60 s (isSo m ws s.boxes 0)
theorem idx_lt {ns : List Nm} {g : Nm} (h : g ∈ ns) : idx ns g < ns.length := by
  unfold idx
  exact List.findIdx_lt_length_of_exists ⟨g, h, beq_self_eq_true g⟩
/-- the letters that rows send -/
structure Sent (N : Nat) (xs ys : List Lt) (k : Nat) : Prop where
  ex : ∃ zs, ys = xs ++ zs ∧ zs.length ≤ k ∧ ∀ o ∈ zs, (∃ q : Nat, o.place = q ∧ q < N) ∧ 0 ≤ o.load ∧ o.load < 100
theorem Sent.trans {N k j : Nat} {xs ys zs : List Lt} (a : Sent N xs ys k) (b : Sent N ys zs j) : Sent N xs zs (k + j) := by
  obtain ⟨u, rfl, h2, h3⟩ := a
  obtain ⟨v, rfl, g2, g3⟩ := b
  exact ⟨u ++ v, List.append_assoc .., by rw [List.length_append]; omega, fun o m => (List.mem_append.mp m).elim (h3 o) (g3 o)⟩
theorem Sent.none {N k : Nat} {xs : List Lt} : Sent N xs xs k := ⟨[], (List.append_nil xs).symm, Nat.zero_le _, fun o m => by cases m⟩
theorem Sent.more {N k j : Nat} {xs ys : List Lt} (a : Sent N xs ys k) (h : k ≤ j) : Sent N xs ys j := by
  obtain ⟨u, h1, h2, h3⟩ := a
  exact ⟨u, h1, by omega, h3⟩
mutual
theorem rowDo_sent {ns ps : List Nm} {p : Nat} {t l : Int} (hl : 0 ≤ l ∧ l < 100) : ∀ (r : Row) (w : WS), WOk ns w → Row.ok ns ps r → Sent ps.length w.out (rowDo ps p t l r w).out r.cnt
  | .set b e, w, h, k => by
    unfold rowDo
    exact .none
  | .draw b m, w, h, k => by
    unfold rowDo
    exact .none
  | .send g k s e, w, h, q => by
    unfold Row.ok at q
    unfold rowDo Row.cnt
    have v := Tr.val_ok (time := t) (ns := ns) h.ok hl e q.2.2.2.2.1
    exact ⟨[_], rfl, Nat.le_refl _, fun o m => by
      rw [List.mem_singleton.mp m]
      exact ⟨⟨idx ps g, rfl, idx_lt q.1⟩, v⟩⟩
  | .ite c x y, w, h, q => by
    unfold Row.ok at q
    unfold rowDo Row.cnt
    have a := rowsDo_sent (p := p) (t := t) hl x w h q.2.1
    have b := rowsDo_sent (p := p) (t := t) hl y w h q.2.2
    split
    · exact b.more (by omega)
    · exact a.more (by omega)
theorem rowsDo_sent {ns ps : List Nm} {p : Nat} {t l : Int} (hl : 0 ≤ l ∧ l < 100) : ∀ (rs : List Row) (w : WS), WOk ns w → Row.oks ns ps rs → Sent ps.length w.out (rowsDo ps p t l rs w).out (Row.cnts rs)
  | [], w, h, k => by
    unfold rowsDo
    exact .none
  | r :: rs, w, h, k => by
    unfold Row.oks at k
    unfold rowsDo Row.cnts
    exact (rowDo_sent (p := p) (t := t) hl r w h k.1).trans (rowsDo_sent (p := p) (t := t) hl rs _ (rowDo_ok (p := p) (t := t) hl r w h k.1).ok k.2)
end
theorem names_len (m : List Pl) : (namesOf m).length = m.length := by unfold namesOf; rw [List.length_map]
theorem MOk.done {m : List Pl} {s : MS} {j : Nat} {l : Lt} (hk : MlOk m) (h : MOk m s j) (hl : l ∈ s.wait) : MOk m (doneOf m s l) (j + 1) := by
  obtain ⟨p, pl, b, c, n, e1, e2, e3, e4, e5, e6, ew, wok, hc, hn, hl0, hpl, r1, r2, r3⟩ := h.here hk hl
  have W := rowsDo_ok (p := p) (t := l.time) hl0 (ruleOf pl.rules l.kind) ⟨b, c, n, []⟩ wok r1
  obtain ⟨zs, P1, P2, P3⟩ := (rowsDo_sent (p := p) (t := l.time) hl0 (ruleOf pl.rules l.kind) ⟨b, c, n, []⟩ wok r1).ex
  rw [← ew] at W P1
  rw [List.nil_append] at P1
  rw [names_len] at P3
  have c2 := W.c2
  have n2 := W.n2
  have f1 := W.ok.few
  simp only at c2 n2
  unfold doneOf afterOf
  rw [e2]
  refine ⟨by simp [h.bl], by simp [h.dl], by simp [h.sl], fun q b' pl' hb hp => ?_, fun x hx => ?_, fun x hx => ?_, fun x hx => ?_, ?_⟩
  · by_cases hq : p = q
    · subst hq
      rw [e3] at hp
      cases hp
      rw [List.getElem?_set_self (List.getElem?_eq_some_iff.mp e4).1] at hb
      cases hb
      exact ⟨W.ok.names, W.ok.ok⟩
    · rw [List.getElem?_set_ne hq] at hb
      exact h.bx q b' pl' hb hp
  · rcases List.mem_or_eq_of_mem_set hx with hx | rfl
    · have := h.dr x hx
      omega
    · have := W.ok.c0
      omega
  · rcases List.mem_or_eq_of_mem_set hx with hx | rfl
    · have := h.sn x hx
      omega
    · have := W.ok.n0
      omega
  · have hx2 := (sortL_perm _).mem_iff.mp hx
    rcases List.mem_append.mp hx2 with hx3 | hx3
    · exact h.wt x (List.mem_filter.mp hx3).1
    · have hx4 := hx3
      rw [P1] at hx4
      exact ⟨(P3 x hx4).1, W.ok.kd x hx3, (P3 x hx4).2⟩
  · show (sortL (s.wait.filter (fun o => !decide (o = l)) ++ (workOf m s l).out)).length ≤ 8 + 12 * (j + 1)
    rw [sortL_length, List.length_append, P1]
    have := List.length_filter_le (fun o => !decide (o = l)) s.wait
    have := h.wl
    omega
theorem MOk.start {m : List Pl} {ls : List Lt} (hk : MlOk m) (h : ∀ l ∈ ls, (∃ p : Nat, l.place = p ∧ p < m.length) ∧ l.kind ∈ kinds ∧ 0 ≤ l.load ∧ l.load < 100) (n : ls.length ≤ 8) : MOk m (startOf m ls) 0 := by
  unfold startOf
  refine ⟨by simp, by simp, by simp, fun p b pl hb hp => ?_, fun c hc => ?_, fun c hc => ?_, fun l hl => h l ((sortL_perm _).mem_iff.mp hl), by rw [sortL_length]; omega⟩
  · rw [List.getElem?_map, hp] at hb
    cases hb
    have q := hk.pl pl (List.mem_of_getElem? hp)
    exact ⟨rfl, fun x hx => (q.boxes x hx).2⟩
  · rw [(List.mem_replicate.mp hc).2]
    omega
  · rw [(List.mem_replicate.mp hc).2]
    omega
/-- the law's and the program's letters: where they come from -/
theorem ltOf_ok {m : List Pl} {g : Gv} (h : GvOk m g) (n : Nat) : (∃ p : Nat, (ltOf (namesOf m) n g).place = p ∧ p < m.length) ∧ (ltOf (namesOf m) n g).kind ∈ kinds ∧ 0 ≤ (ltOf (namesOf m) n g).load ∧ (ltOf (namesOf m) n g).load < 100 :=
  ⟨⟨idx (namesOf m) g.place, rfl, by rw [← names_len]; exact idx_lt h.place⟩, h.kind, h.l0, h.l1⟩
/-! ### numbers of what is given -/
def gnth (gs : List Gv) (n : Nat) : Gv := (gs[n]?).getD ⟨0, "", "", 0⟩
def ltsOf (m : List Pl) (gs : List Gv) (ns : List Nat) : List Lt := ns.map fun n => ltOf (namesOf m) n (gnth gs n)
def shL (m : List Pl) (gs : List Gv) (time : Int) (ws : Nm × Tr) (ns : List Nat) : Option Bool := shownOf m ws time (startOf m (ltsOf m gs ns))
theorem gnth_at {gs : List Gv} {n : Nat} (h : n < gs.length) : gs[n]? = some (gnth gs n) := by
  unfold gnth
  rw [List.getElem?_eq_getElem h]
  rfl
theorem lts_ok {m : List Pl} {gs : List Gv} (h : ∀ g ∈ gs, GvOk m g) {ns : List Nat} (hn : ∀ n ∈ ns, n < gs.length) : ∀ l ∈ ltsOf m gs ns, (∃ p : Nat, l.place = p ∧ p < m.length) ∧ l.kind ∈ kinds ∧ 0 ≤ l.load ∧ l.load < 100 := fun l hl => by
  obtain ⟨n, hm, rfl⟩ := List.mem_map.mp hl
  exact ltOf_ok (h _ (List.mem_of_getElem? (gnth_at (hn n hm)))) n
/-- one pass of the cutting -/
def passOf (sh : List Nat → Option Bool) : List Nat → List Nat → Option (List Nat)
  | [], left => some left
  | n :: ns, left => match sh (left.filter fun x => !decide (x = n)) with
    | none => none
    | some true => passOf sh ns (left.filter fun x => !decide (x = n))
    | some false => passOf sh ns left
def cutRun (sh : List Nat → Option Bool) : Nat → List Nat → Option (List Nat)
  | 0, _ => none
  | k + 1, left => match passOf sh left left with
    | none => none
    | some l => if l.length < left.length then cutRun sh k l else some l
end PM
/-! part F16 -/
namespace PM
open PySem PySem.Spec PyProof.Rows L2 PMH
open Evl (Ex)

local macro_rules | `(tactic| walk_at "ex") => `(tactic| first
  | with_reducible assumption
  | with_reducible exact Evl.Ex.refl _
  | (refine Evl.Ex.trans ?_ (by with_reducible assumption); walk_at "ex"))
local macro_rules | `(tactic| walk_at "hx") => `(tactic| first
  | with_reducible assumption
  | (refine At.ex (by with_reducible assumption) ?_; walk_at "ex")
  | (refine Fz.tx (by with_reducible assumption) ?_; walk_at "tx")
  | (refine TrAt.ex (by with_reducible assumption) ?_; walk_at "ex")
  | (refine MlAt.tx ?_ (by with_reducible assumption); walk_at "tx")
  | (refine PlAt.tx ?_ (by with_reducible assumption); walk_at "tx")
  | (refine LtAt.tx ?_ (by with_reducible assumption); walk_at "tx")
  | (refine GvAt.tx ?_ (by with_reducible assumption); walk_at "tx")
  | (refine WsAt.tx ?_ (by with_reducible assumption); walk_at "tx")
  | (refine RwAt.tx ?_ _ _ (by with_reducible assumption); walk_at "tx")
  | (refine RwsAt.tx ?_ _ _ (by with_reducible assumption); walk_at "tx")
  | (refine RuAt.tx ?_ (by with_reducible assumption); walk_at "tx")
  | (refine PrAt.tx ?_ (by with_reducible assumption); walk_at "tx"))
local macro_rules | `(tactic| walk_at "num") => `(tactic| first
  | with_reducible assumption
  | decide
  | exact Or.inl ⟨by omega, by omega⟩
  | exact Or.inr ⟨by omega, by omega⟩
  | (refine ⟨?_, ?_⟩ <;> omega)
  | (show (0 : Int) < _; omega))
local macro_rules | `(tactic| walk_at "tx") => `(tactic| first
  | with_reducible assumption
  | (refine Tx.ex ?_; walk_at "ex"))
local macro_rules | `(tactic| walk_at "sz") => `(tactic| first
  | with_reducible assumption
  | omega
  | (refine Evl.sz_of ?_; omega)
  | (refine Evl.sz_lt ?_; omega))
local macro_rules | `(tactic| walk_at "fl") => `(tactic| first
  | rfl
  | decide +kernel)

local macro_rules | `(tactic| walk_at "mi") => `(tactic| first
  | with_reducible assumption
  | (refine MiAt.ex (by with_reducible assumption) ?_; walk_at "ex"))
/-- boxes of all places -/
def BsOk (m : List Pl) (bs : List Bx) : Prop := bs.length = m.length ∧ ∀ (p : Nat) (b : Bx) (pl : Pl), bs[p]? = some b → m[p]? = some pl → b.map (·.1) = pl.boxes.map (·.1) ∧ BxOk b
theorem MOk.bs {m : List Pl} {s : MS} {j : Nat} (h : MOk m s j) : BsOk m s.boxes := ⟨h.bl, h.bx⟩
def TAug (ti : TIp) (te : TE) (i : Nat) (x : V) (nx : L2.St → Hp → Prop) (σ : L2.St) (H : Hp) : Prop := te σ H fun y H1 => ti x y H1 fun z H2 => nx (σ.set i (some z)) H2
theorem g_aug {i : Nat} {te : TE} {ti : TIp} {x : V} {nx bk ct : L2.St → Hp → Prop} {rt : VK} {σ : L2.St} {H : Hp} (e : σ[i]? = some (some x)) (h : TAug ti te i x nx σ H) : tAug i te ti ⟨nx, rt, bk, ct⟩ σ H := ⟨x, e, h⟩
theorem g_augI {i : Nat} {k j : Int} {nx : L2.St → Hp → Prop} {σ σ' : L2.St} {H : Hp} (e : σ.set i (some (.int (j + k))) = σ') (h : nx σ' H) : TAug (ipI fun i j => i + j) (tC (.int k)) i (.int j) nx σ H := ⟨j, k, rfl, rfl, (show nx (σ.set i (some (.int (j + k)))) H from e.symm ▸ h)⟩
theorem at_zero {α : Type} {x : α} {xs : List α} : atI (x :: xs) 0 = some x := at_nat (i := 0) rfl
theorem al_dp {K : PySem.W.Frag} {H : Hp} : ∀ {ls : List Lt} {us : List V}, Al LtAt ls us H → DpAll K H us (ls.map encL)
  | [], _, h => by rw [show _ = [] from h]; exact .nil
  | l :: ls, _, ⟨u, us, e, h, k⟩ => by subst e; exact .cons h.dp (al_dp k)
theorem encLs_lay : ∀ {ls : List Lt}, (∀ l ∈ ls, l.kind ∈ kinds) → PyData.canLayAll0 (ls.map encL) = true ∧ PyData.depthAll (ls.map encL) ≤ 1
  | [], _ => ⟨by simp [PyData.canLayAll0], by simp [PyData.depthAll]⟩
  | l :: ls, h => by
    have a := encLs_lay fun x m => h x (List.mem_cons_of_mem _ m)
    have b := encL_shaped (h l List.mem_cons_self)
    simp only [SeqAt.shaped, Bool.and_eq_true] at b
    have d : (encL l).depth ≤ 1 := by simp [encL, PyData.depth, PyData.depthAll]
    refine ⟨by simp only [List.map_cons, PyData.canLayAll0, b.1, a.1, Bool.and_true], ?_⟩
    simp only [List.map_cons, PyData.depthAll]
    omega
theorem encLs_shaped {ls : List Lt} (h : ∀ l ∈ ls, l.kind ∈ kinds) : SeqAt.shaped (.tuple (ls.map encL)) = true ∧ SeqAt.shaped (.list (ls.map encL)) = true := by
  have a := encLs_lay h
  have d1 : PyData.depth (.tuple (ls.map encL)) ≤ 64 := by simp only [PyData.depth]; omega
  have d2 : PyData.depth (.list (ls.map encL)) ≤ 64 := by simp only [PyData.depth]; omega
  simp only [SeqAt.shaped, PyData.canLay0, a.1, Bool.true_and]
  exact ⟨decide_eq_true d1, decide_eq_true d2⟩
theorem nil_shaped : SeqAt.shaped (.tuple []) = true ∧ SeqAt.shaped (.list []) = true := encLs_shaped (ls := []) (fun l h => by cases h)
theorem g_neNil {K : PySem.W.Frag} {H : Hp} {Q : VK} {a e : Addr} {ls : List Lt} {us : List V} (h : At H a (.tup us)) (al : Al LtAt ls us H) (kd : ∀ l ∈ ls, l.kind ∈ kinds) (he : At H e (.tup [])) (q : Q (.bl (!decide (ls = []))) H) : rNeD K (.ref a) (.ref e) H Q := by
  refine ⟨.tuple (ls.map encL), .tuple [], .tup h.sqT (al_dp al), .tup he.sqT .nil, (encLs_shaped kd).1, nil_shaped.1, ?_⟩
  cases ls with
  | nil => simpa [PyData.eqv, PyData.eqvAll] using q
  | cons l ls => simpa [PyData.eqv, PyData.eqvAll] using q
section
variable {P : Program} {w : World} {K : PySem.W.Frag} {mg : Str → Option Value} {base : Heap}
def sp_is_so (K : PySem.W.Frag) : Sp := fun vs H Q _ => ∃ (mil : Addr) (m : List Pl) (ws : Nm × Tr) (wv : V) (bs : List Bx) (bv : V) (t : Int), vs = [.ref mil, wv, bv, .int t] ∧ MiAt K m mil H ∧ MlOk m ∧ WsAt ws wv H ∧ WsOk m ws ∧ TpAt NbAt bs bv H ∧ BsOk m bs ∧ Ret (.bl (isSo m ws bs t)) H Q
abbrev N_is_so : List Str := ["mill", "wish", "boxes", "time", "number", "here"]
theorem sc_is_so : FnScope N_is_so ["mill", "wish", "boxes", "time"] (defScope s_is_so) := ⟨rfl, rfl, rfl, by decide +kernel, rfl, by decide +kernel, by decide +kernel⟩
theorem ok_is_so (T : TX w K mg)  : Fn P w K mg base CX0 (6) "is_so" ["mill", "wish", "boxes", "time"] (sp_is_so K) := by
  have f_Mill_places := ok_Mill_places (P := P) (base := base) T
  have f_names_of := ok_names_of (P := P) (base := base) T
  have f_value := ok_value (P := P) (base := base) T (ok_reckoned T) 3
  obtain ⟨fd, F⟩ := T.d_is_so
  refine mk_fn F T.g_is_so sc_is_so (fun vs H Q E h => by obtain ⟨_, _, _, _, _, _, _, rfl, _⟩ := h; rfl) (fun _ _ _ _ _ _ us hl => match us, hl with | [_, _, _, _], _ => rfl) (fun cdv A outer s H vs Q E hr h => ?_)
  obtain ⟨mil, m, ws, wv, bs, bv, t, rfl, hm, hk, hw, hok, hb, hbs, hq⟩ := h
  have hu := hu_of hr
  refine ⟨(tSeq (tAsg (tBM K "list" (rIndex K) (tMeth (He.ga K "Mill") "places" (sp_Mill_places K) [] E0 (tVar 0) tNil) (tCons (tOp (rIxT K) (tVar 1) (tC (.int 0))) tNil)) (gName 4)) (tSeq (tAsg (tDictZip K (tCons (tCall (sp_names_of K) [] E0 (tCons (tVar 0) (tCons (tVar 4) tNil))) (tCons (tOp (rIxT K) (tVar 2) (tVar 4)) tNil))) (gName 5)) (tRet (tOp rNe (tCall (sp_value 3) [] E0 (tCons (tOp (rIxT K) (tVar 1) (tC (.int 1))) (tCons (tVar 5) (tCons (tC (.int 0)) (tCons (tVar 3) tNil))))) (tC (.int 0)))))),
      (pss_cons (ps_set (i := 4) sc_is_so.nd rfl (Or.inl rfl) (pe_bm PySem.F.plainAttrs_list PySem.F.slot_list_index PySem.F.type_list_index mt_index (f_Mill_places.ex.elim fun _ q => q.elim fun _ q => pe_meth0 (pv 0) T.c_Mill q.2.1 q.1 (hr.mono (by omega)) q.2.2 .nil pass0) (pa_cons (pe_ix ix_tup (pv 1) pe_int (fun _ _ => rfl)) pa_nil)))
      (pss_cons (ps_set (i := 5) sc_is_so.nd rfl (Or.inl rfl) (pe_dictZip rfl (by rfl) T.b_dict (by rfl) T.b_zip (pa_cons (f_names_of.ex.elim fun _ q => q.elim fun _ q => pe_call q.1 (hr.mono (by omega)) (by rfl) q.2.1 q.2.2.1 q.2.2.2 .nil pass0 (pa_cons (pv 0) (pa_cons (pv 4) pa_nil))) (pa_cons (pe_ix ix_tup (pv 2) (pv 4) (fun _ _ => rfl)) pa_nil))))
      (pss_one (ps_ret (pe_cmpR op_ne (f_value.ex.elim fun _ q => q.elim fun _ q => pe_call q.1 (hr.mono (by omega)) (by rfl) q.2.1 q.2.2.1 q.2.2.2 .nil pass0 (pa_cons (pe_ix ix_tup (pv 1) pe_int (fun _ _ => rfl)) (pa_cons (pv 5) (pa_cons pe_int (pa_cons (pv 3) pa_nil))))) pe_int (nomark _)))))), ?_⟩
  refine g_start (σ' := [some _, some _, some _, some _, none, none]) rfl ?_
  obtain ⟨c, u, rfl, hc, hu1⟩ := hw
  obtain ⟨i, pl, hi, en, hto⟩ := hok
  obtain ⟨ba, us, rfl, hba, hbal⟩ := hb
  have hpl := hk.pl pl (List.mem_of_getElem? hi)
  have hin := names_at hi
  rw [en] at hin
  obtain ⟨b, hbi⟩ : ∃ b : Bx, bs[i]? = some b := ⟨_, List.getElem?_eq_getElem (show i < bs.length by rw [hbs.1]; exact (List.getElem?_eq_some_iff.mp hi).1)⟩
  obtain ⟨hnm, hbo⟩ := hbs.2 i b pl hbi hi
  obtain ⟨bu, hbu, na, rfl, hna⟩ := hbal.at hbi
  obtain ⟨dxm, trm, hins⟩ := hm.ins
  refine g_seq (g_asg (g_bm (g_meth (g_v0 (g_methA (by walk_at "hx") (by walk_at "fl") (g_nil ?_))))))
  refine ⟨mil, m, rfl, hm, hk.small, fun p H1 np e1 hp => ?_⟩
  refine g_tyL (by walk_at "hx") (g_cons (g_op (g_v1 (g_c (g_ixT (by walk_at "hx") (show atI _ _ = some _ from rfl) (g_nil ?_))))))
  refine g_idxN hp hin hk.nd ?_
  refine g_n4 (g_seq (g_asg (g_dzip (g_cons (g_call (g_cons (g_v0 (g_cons (g_v4 (g_nil ?_))))))))))
  refine ⟨mil, m, i, pl, rfl, by walk_at "mi", hi, by have := hpl.few; omega, fun p2 H2 np2 e2 hp2 => ?_⟩
  refine g_cons (g_op (g_v2 (g_v4 ?_)))
  refine g_ixT (by walk_at "hx") (at_nat hbu) ?_
  refine g_nil ?_
  refine g_dzipA (bx := b) (by rw [hnm]; exact hp2) (by walk_at "hx") (by rw [hnm]; exact hpl.nd) (fun B H3 n3 e3 hB => ?_)
  refine g_n5 (g_ret (g_op (g_call (g_cons (g_op (g_v1 (g_c (g_ixT (by walk_at "hx") (show atI _ _ = some _ from rfl) (g_cons (g_v5 (g_cons (g_c (g_cons (g_v3 (g_nil ?_)))))))))))))))
  refine ⟨ws.2, u, B, b, 0, t, rfl, by walk_at "hx", hto.2.1, by rw [hnm]; exact hto.1, hB, hbo, ⟨by omega, by omega⟩, ?_⟩
  refine g_c (g_neI ?_)
  have e : isSo m ws bs t = !decide (ws.2.val b 0 t = 0) := by
    unfold isSo
    rw [idx_at hin hk.nd, List.getD_eq_getElem?_getD, hbi]
    rfl
  show Q (.bl (!decide (ws.2.val b 0 t = 0))) H3
  rw [← e]
  exact hq _ (by walk_at "ex")
def sp_shows_with (K : PySem.W.Frag) : Sp := fun vs H Q _ => ∃ (mil la : Addr) (m : List Pl) (ls : List Lt) (us : List V) (time : Int) (ws : Nm × Tr) (wv : V) (b : Bool), vs = [.ref mil, .ref la, .int time, wv] ∧ MiAt K m mil H ∧ MlOk m ∧ At H la (.lst us) ∧ Al LtAt ls us H ∧ MOk m (startOf m ls) 0 ∧ ls.length ≤ 8 ∧ WsAt ws wv H ∧ WsOk m ws ∧
  shownOf m ws time (startOf m ls) = some b ∧ Ret (.bl b) H Q
abbrev N_shows_with : List Str := ["mill", "letters", "time", "wish", "state", "found", "many", "letter"]
theorem sc_shows_with : FnScope N_shows_with ["mill", "letters", "time", "wish"] (defScope s_shows_with) := ⟨rfl, rfl, rfl, by decide +kernel, rfl, by decide +kernel, by decide +kernel⟩
theorem ok_shows_with (T : TX w K mg)  : Fn P w K mg base CX0 (24) "shows_with" ["mill", "letters", "time", "wish"] (sp_shows_with K) := by
  have f_state_with := ok_state_with (P := P) (base := base) T
  have f_is_so := ok_is_so (P := P) (base := base) T
  have f_behind := ok_behind (P := P) (base := base) T
  obtain ⟨fd, F⟩ := T.d_shows_with
  refine mk_fn F T.g_shows_with sc_shows_with (fun vs H Q E h => by obtain ⟨_, _, _, _, _, _, _, _, _, rfl, _⟩ := h; rfl) (fun _ _ _ _ _ _ us hl => match us, hl with | [_, _, _, _], _ => rfl) (fun cdv A outer s H vs Q E hr h => ?_)
  obtain ⟨mil, la, m, ls, us, time, ws, wv, b, rfl, hm, hk, hla, hal, hmo, hn, hw, hok, hb, hq⟩ := h
  have hu := hu_of hr
  refine ⟨(tSeq (tAsg (tCall (sp_state_with K) [] E0 (tCons (tVar 0) (tCons (tVar 1) tNil))) (gName 4)) (tSeq (tAsg (tCall (sp_is_so K) [] E0 (tCons (tVar 0) (tCons (tVar 3) (tCons (tOp (rIxT K) (tVar 4) (tC (.int 0))) (tCons (tC (.int 0)) tNil))))) (gName 5)) (tSeq (tAsg (tC (.int 0)) (gName 6)) (tSeq (tWhile (tAnd (tTest (tOp (rNeD K) (tOp (rIxT K) (tVar 4) (tC (.int 3))) (tTup tNil))) (tTest (tOp rLeI (tOp (rIxT K) (tOp (rIxT K) (tOp (rIxT K) (tVar 4) (tC (.int 3))) (tC (.int 0))) (tC (.int 0))) (tVar 2)))) (tSeq (tIfS (tTest (tOp rEq (tVar 6) (tC (.int 400)))) tNever tNext) (tSeq (tAsg (tOp (rIxT K) (tOp (rIxT K) (tVar 4) (tC (.int 3))) (tC (.int 0))) (gName 7)) (tSeq (tAsg (tCall (sp_behind K) [] E0 (tCons (tVar 0) (tCons (tVar 4) (tCons (tVar 7) tNil)))) (gName 4)) (tSeq (tAug 6 (tC (.int 1)) (ipI fun i j => i + j)) (tAsg (tOrV (tVar 5) (tCall (sp_is_so K) [] E0 (tCons (tVar 0) (tCons (tVar 3) (tCons (tOp (rIxT K) (tVar 4) (tC (.int 0))) (tCons (tOp (rIxT K) (tVar 7) (tC (.int 0))) tNil)))))) (gName 5))))))) (tRet (tVar 5)))))),
      (pss_cons (ps_set (i := 4) sc_shows_with.nd rfl (Or.inl rfl) (f_state_with.ex.elim fun _ q => q.elim fun _ q => pe_call q.1 (hr.mono (by omega)) (by rfl) q.2.1 q.2.2.1 q.2.2.2 .nil pass0 (pa_cons (pv 0) (pa_cons (pv 1) pa_nil))))
      (pss_cons (ps_set (i := 5) sc_shows_with.nd rfl (Or.inl rfl) (f_is_so.ex.elim fun _ q => q.elim fun _ q => pe_call q.1 (hr.mono (by omega)) (by rfl) q.2.1 q.2.2.1 q.2.2.2 .nil pass0 (pa_cons (pv 0) (pa_cons (pv 3) (pa_cons (pe_ix ix_tup (pv 4) pe_int (fun _ _ => rfl)) (pa_cons pe_int pa_nil))))))
      (pss_cons (ps_set (i := 6) sc_shows_with.nd rfl (Or.inl rfl) pe_int)
      (pss_cons (ps_while PassesOwn.never (PW.pt (pw_and (pt_cmpR (op_neD hr.units) (pe_ix ix_tup (pv 4) pe_int (fun _ _ => rfl)) (pe_tup pa_nil) (nomark _)) (pw_and1 (pt_cmpR op_le (pe_ix ix_tup (pe_ix ix_tup (pe_ix ix_tup (pv 4) pe_int (fun _ _ => rfl)) pe_int (fun _ _ => rfl)) pe_int (fun _ _ => rfl)) (pv 2) (nomark _))))) (pss_cons (ps_if (pt_cmpR op_eq (pv 6) (pe_gint (by rfl) T.k_MOST_DONE) (nomark _)) (pss_one ps_never) pss_nil)
      (pss_cons (ps_set (i := 7) sc_shows_with.nd rfl (Or.inl rfl) (pe_ix ix_tup (pe_ix ix_tup (pv 4) pe_int (fun _ _ => rfl)) pe_int (fun _ _ => rfl)))
      (pss_cons (ps_set (i := 4) sc_shows_with.nd rfl (Or.inl rfl) (f_behind.ex.elim fun _ q => q.elim fun _ q => pe_call q.1 (hr.mono (by omega)) (by rfl) q.2.1 q.2.2.1 q.2.2.2 .nil pass0 (pa_cons (pv 0) (pa_cons (pv 4) (pa_cons (pv 7) pa_nil)))))
      (pss_cons (ps_aug (i := 6) sc_shows_with.nd rfl (Or.inl rfl) pe_int ip_add)
      (pss_one (ps_set (i := 5) sc_shows_with.nd rfl (Or.inl rfl) (pe_or (pv 5) (pe_one (f_is_so.ex.elim fun _ q => q.elim fun _ q => pe_call q.1 (hr.mono (by omega)) (by rfl) q.2.1 q.2.2.1 q.2.2.2 .nil pass0 (pa_cons (pv 0) (pa_cons (pv 3) (pa_cons (pe_ix ix_tup (pv 4) pe_int (fun _ _ => rfl)) (pa_cons (pe_ix ix_tup (pv 7) pe_int (fun _ _ => rfl)) pa_nil))))))))))))))
      (pss_one (ps_ret (pv 5))))))), ?_⟩
  refine g_start (σ' := [some _, some _, some _, some _, none, none, none, none]) rfl ?_
  refine g_seq (g_asg (g_call (g_cons (g_v0 (g_cons (g_v1 (g_nil ?_)))))))
  refine ⟨mil, la, m, ls, us, rfl, hm, hk, hla, hal, by omega, fun sv H1 e1 h1 => ?_⟩
  obtain ⟨sa, bv, dv, pv', wv2, rfl, hsa, hbx, r1⟩ := id h1
  refine g_n4 (g_seq (g_asg (g_call (g_cons (g_v0 (g_cons (g_v3 (g_cons (g_op (g_v4 (g_c (g_ixT (by walk_at "hx") (show atI _ _ = some _ from rfl) (g_cons (g_c (g_nil ?_)))))))))))))))
  refine ⟨mil, m, ws, wv, _, bv, 0, rfl, by walk_at "mi", hk, hw.tx (Tx.ex e1), hok, hbx, hmo.bs, fun H2 e2 => ?_⟩
  refine g_n5 (g_seq (g_asg (g_c (g_n6 (g_seq ?_)))))
  refine g_while (fun k σ' H' => ∃ (s : MS) (f : Bool) (sv : V) (x : Option V), σ' = [some (.ref mil), some (.ref la), some (.int time), some wv, some sv, some (.bl f), some (.int (60 - (k : Int))), x] ∧ Ex H H' ∧ StAt s sv H' ∧ MOk m s (60 - k) ∧ k ≤ 60 ∧ showRun m ws time k s f = some b)
    ⟨60, _, _, _, _, rfl, e1.trans e2, h1.tx (Tx.ex e2), by simpa using hmo, by omega, hb⟩ (fun k σ' H' w1 => ?_)
  obtain ⟨s, f, sv, x, rfl, e3, hs, hmk, hk60, hrun⟩ := w1
  obtain ⟨sa, bv, dv, pv', wv2, rfl, hsa, hbx, hdr, hse, ⟨wa, wus, rfl, hwa, hwal⟩⟩ := id hs
  have kd : ∀ l ∈ s.wait, l.kind ∈ kinds := fun l m => (hmk.wt l m).2.1
  refine g_and (g_tst (g_op (g_op (g_v4 (g_c (g_ixT (by walk_at "hx") (show atI _ _ = some _ from rfl) (g_tup (g_nil ?_))))))))
  refine g_tupN (by simp) (fun e H4 n4 e4 he => ?_)
  refine g_neNil (hwa.ex e4) (hwal.imp fun _ _ z => z.tx (Tx.ex e4)) kd he ?_
  cases hwt : s.wait with
  | nil =>
    have hf : f = b := by
      cases k <;> simpa [showRun, hwt] using hrun
    subst hf
    refine g_k (g_ifN0 (rfl) (g_iteF (g_ret (g_v5 ?_))))
    exact hq _ (e3.trans e4)
  | cons l rest =>
    rw [hwt] at hwal
    obtain ⟨lu, lus, rfl, hlu, hlus⟩ := hwal
    obtain ⟨lc, rfl, hlc⟩ := id hlu
    have hlw : l ∈ s.wait := by rw [hwt]; exact List.mem_cons_self
    refine g_k (g_ifN1 (by simp) (g_tst (g_op (g_op (g_op (g_op (g_v4 (g_c (g_ixT (by walk_at "hx") (show atI _ _ = some _ from rfl) (g_c ?_))))))))))
    refine g_ixT (hwa.ex e4) at_zero ?_
    refine g_c (g_ixT (by walk_at "hx") (show atI _ _ = some _ from rfl) (g_v2 (g_I0 (g_k ?_))))
    by_cases hle : l.time ≤ time
    · cases k with
      | zero =>
        simp only [showRun, hwt, if_pos hle] at hrun
        cases hrun
      | succ k =>
        simp only [showRun, hwt, if_pos hle] at hrun
        refine g_ifD1 (hle) (g_turn (g_seq (g_ifs (g_tst (g_op (g_v6 (g_c (g_eqI (g_k (g_ifD0 (by omega) (g_next (g_seq (g_asg (g_op (g_op (g_v4 (g_c (g_ixT (by walk_at "hx") (show atI _ _ = some _ from rfl) (g_c ?_)))))))))))))))))))
        refine g_ixT (hwa.ex e4) at_zero ?_
        refine g_n7 (g_seq (g_asg (g_call (g_cons (g_v0 (g_cons (g_v4 (g_cons (g_v7 (g_nil ?_))))))))))
        have hmo2 := hmk.done hk hlw
        refine ⟨mil, m, s, 60 - (k + 1), .ref sa, l, .ref lc, rfl, hm.ex (e3.trans e4), hk, hs.tx (Tx.ex e4), hmk, by omega, hlu.tx (Tx.ex e4), hlw, fun v H5 e5 h5 => ?_⟩
        have e35 := e3.trans (e4.trans e5)
        obtain ⟨sa5, bv5, dv5, pv5, wv5, rfl, hsa5, hbx5, r5⟩ := id h5
        have hlc5 := (hlc.ex e4).ex e5
        refine g_n4 (g_seq ?_)
        refine g_aug rfl (g_augI rfl ?_)
        have cnt : (60 - ((k + 1 : Nat) : Int) + 1) = 60 - (k : Int) := by omega
        have cnt2 : 60 - (k + 1) + 1 = 60 - k := by omega
        rw [cnt2] at hmo2
        rw [cnt]
        cases f with
        | true =>
          refine g_asg (g_orV (g_v5 (g_k (g_iteT (g_n5 ?_)))))
          exact ⟨k, by omega, _, true, _, _, rfl, e35, h5, hmo2, by omega, by simpa using hrun⟩
        | false =>
          refine g_asg (g_orV (g_v5 (g_k (g_iteF (g_call (g_cons (g_v0 (g_cons (g_v3 (g_cons (g_op (g_v4 (g_c (g_ixT (by walk_at "hx") (show atI _ _ = some _ from rfl) (g_cons (g_op (g_v7 (g_c (g_ixT (by walk_at "hx") (show atI _ _ = some _ from rfl) (g_nil ?_))))))))))))))))))))
          refine ⟨mil, m, ws, wv, _, bv5, l.time, rfl, hm.ex e35, hk, hw.tx (Tx.ex e35), hok, hbx5, hmo2.bs, fun H6 e6 => ?_⟩
          refine g_n5 ?_
          exact ⟨k, by omega, _, _, _, _, rfl, e35.trans e6, h5.tx (Tx.ex e6), hmo2, by omega, by simpa using hrun⟩
    ·
      refine g_ifD0 (hle) (g_ret (g_v5 ?_))
      have hf : f = b := by
        cases k <;> simpa [showRun, hwt, hle] using hrun
      subst hf
      exact hq _ (e3.trans e4)
end
end PM
/-! part F17 -/
namespace PM
open PySem PySem.Spec PyProof.Rows L2 PMH
open Evl (Ex)

local macro_rules | `(tactic| walk_at "ex") => `(tactic| first
  | with_reducible assumption
  | with_reducible exact Evl.Ex.refl _
  | (refine Evl.Ex.trans ?_ (by with_reducible assumption); walk_at "ex"))
local macro_rules | `(tactic| walk_at "hx") => `(tactic| first
  | with_reducible assumption
  | (refine At.ex (by with_reducible assumption) ?_; walk_at "ex")
  | (refine Fz.tx (by with_reducible assumption) ?_; walk_at "tx")
  | (refine TrAt.ex (by with_reducible assumption) ?_; walk_at "ex")
  | (refine MlAt.tx ?_ (by with_reducible assumption); walk_at "tx")
  | (refine PlAt.tx ?_ (by with_reducible assumption); walk_at "tx")
  | (refine LtAt.tx ?_ (by with_reducible assumption); walk_at "tx")
  | (refine GvAt.tx ?_ (by with_reducible assumption); walk_at "tx")
  | (refine WsAt.tx ?_ (by with_reducible assumption); walk_at "tx")
  | (refine RwAt.tx ?_ _ _ (by with_reducible assumption); walk_at "tx")
  | (refine RwsAt.tx ?_ _ _ (by with_reducible assumption); walk_at "tx")
  | (refine RuAt.tx ?_ (by with_reducible assumption); walk_at "tx")
  | (refine PrAt.tx ?_ (by with_reducible assumption); walk_at "tx"))
local macro_rules | `(tactic| walk_at "num") => `(tactic| first
  | with_reducible assumption
  | decide
  | exact Or.inl ⟨by omega, by omega⟩
  | exact Or.inr ⟨by omega, by omega⟩
  | (refine ⟨?_, ?_⟩ <;> omega)
  | (show (0 : Int) < _; omega))
local macro_rules | `(tactic| walk_at "tx") => `(tactic| first
  | with_reducible assumption
  | (refine Tx.ex ?_; walk_at "ex"))
local macro_rules | `(tactic| walk_at "sz") => `(tactic| first
  | with_reducible assumption
  | omega
  | (refine Evl.sz_of ?_; omega)
  | (refine Evl.sz_lt ?_; omega))
local macro_rules | `(tactic| walk_at "fl") => `(tactic| first
  | rfl
  | decide +kernel)

local macro_rules | `(tactic| walk_at "mi") => `(tactic| first
  | with_reducible assumption
  | (refine MiAt.ex (by with_reducible assumption) ?_; walk_at "ex"))
section
variable {P : Program} {w : World} {K : PySem.W.Frag} {mg : Str → Option Value} {base : Heap}
structure Asked (K : PySem.W.Frag) (mil g : Addr) (m : List Pl) (gs : List Gv) (us : List V) (ws : Nm × Tr) (wv : V) (H : Hp) : Prop where
  mi : MiAt K m mil H
  ok : MlOk m
  hgs : GsAt m gs us g H
  hws : WsAt ws wv H
  wok : WsOk m ws
theorem Asked.ex {mil g : Addr} {m : List Pl} {gs : List Gv} {us : List V} {ws : Nm × Tr} {wv : V} {H H' : Hp} (h : Asked K mil g m gs us ws wv H) (e : Ex H H') : Asked K mil g m gs us ws wv H' := ⟨h.mi.ex e, h.ok, h.hgs.ex e, h.hws.tx (Tx.ex e), h.wok⟩
def sp_shows_left (K : PySem.W.Frag) : Sp := fun vs H Q _ => ∃ (mil g na : Addr) (m : List Pl) (gs : List Gv) (us : List V) (ws : Nm × Tr) (wv : V) (time : Int) (ns : List Nat) (b : Bool), vs = [.ref mil, .ref g, .int time, wv, .ref na] ∧ Asked K mil g m gs us ws wv H ∧ At H na (.lst (nV ns)) ∧ (∀ n ∈ ns, n < gs.length) ∧ ns.length ≤ 8 ∧
  shL m gs time ws ns = some b ∧ Ret (.bl b) H Q
abbrev N_shows_left : List Str := ["mill", "given", "time", "wish", "numbers", "letters", "number"]
theorem sc_shows_left : FnScope N_shows_left ["mill", "given", "time", "wish", "numbers"] (defScope s_shows_left) := ⟨rfl, rfl, rfl, by decide +kernel, rfl, by decide +kernel, by decide +kernel⟩
theorem ok_shows_left (T : TX w K mg)  : Fn P w K mg base CX0 (25) "shows_left" ["mill", "given", "time", "wish", "numbers"] (sp_shows_left K) := by
  have f_letter_of := ok_letter_of (P := P) (base := base) T
  have f_shows_with := ok_shows_with (P := P) (base := base) T
  obtain ⟨fd, F⟩ := T.d_shows_left
  refine mk_fn F T.g_shows_left sc_shows_left (fun vs H Q E h => by obtain ⟨_, _, _, _, _, _, _, _, _, _, _, rfl, _⟩ := h; rfl) (fun _ _ _ _ _ _ us hl => match us, hl with | [_, _, _, _, _], _ => rfl) (fun cdv A outer s H vs Q E hr h => ?_)
  obtain ⟨mil, g, na, m, gs, us, ws, wv, time, ns, b, rfl, ha, hna, hlt, hl, hb, hq⟩ := h
  have hu := hu_of hr
  refine ⟨(tSeq (tAsg (tLc (iList K (tVar 4)) (gName 6) tYes (tCall (sp_letter_of K) [] E0 (tCons (tVar 0) (tCons (tVar 6) (tCons (tOp (rIx K) (tVar 1) (tVar 6)) tNil)))) [6]) (gName 5)) (tRet (tCall (sp_shows_with K) [] E0 (tCons (tVar 0) (tCons (tVar 5) (tCons (tVar 2) (tCons (tVar 3) tNil))))))),
      (pss_cons (ps_setLc (i := 5) (own := [("number", 6)]) (wi := (iList K (tVar 4))) (g := (gName 6)) (tt := tYes) (te := (tCall (sp_letter_of K) [] E0 (tCons (tVar 0) (tCons (tVar 6) (tCons (tOp (rIx K) (tVar 1) (tVar 6)) tNil))))) rfl sc_shows_left.nd rfl rfl (sw_true rfl rfl rfl (by decide +kernel)) (pi_list (pv 4)) (blkOk_by (N := N_shows_left) (sc := defScope s_shows_left) (by decide +kernel)) (fun _ _ _ _ _ => (pg_name (i := 6) sc_shows_left.nd rfl (Or.inl rfl))) (fun _ _ _ _ _ => pts_nil) (fun _ _ _ _ _ => (f_letter_of.ex.elim fun _ q => q.elim fun _ q => pe_call q.1 (hr.mono (by omega)) (by rfl) q.2.1 q.2.2.1 q.2.2.2 .nil pass0 (pa_cons (pv 0) (pa_cons (pv 6) (pa_cons (pe_ix ix_seq (pv 1) (pv 6) (fun _ _ => rfl)) pa_nil))))))
      (pss_one (ps_ret (f_shows_with.ex.elim fun _ q => q.elim fun _ q => pe_call q.1 (hr.mono (by omega)) (by rfl) q.2.1 q.2.2.1 q.2.2.2 .nil pass0 (pa_cons (pv 0) (pa_cons (pv 5) (pa_cons (pv 2) (pa_cons (pv 3) pa_nil)))))))), ?_⟩
  refine g_start (σ' := [some _, some _, some _, some _, some _, none, none]) rfl ?_
  obtain ⟨hm, hk, hg, hw, hwo⟩ := id ha
  obtain ⟨hsq, hal, hok, hfew⟩ := id hg
  refine g_seq (g_asg (g_lcL (g_v4 ?_)))
  refine lc_pureL (R := fun (n : Nat) u _ => u = V.int (n : Int)) (S := LtAt) (ds := ns) (p := fun _ => true) (f := fun n => ltOf (namesOf m) n (gnth gs n)) hna (al_eq ns) (by omega) (fun _ _ _ _ h => h) (fun _ _ _ _ t h => h.tx t) (fun n hn u H1 e1 hR Y N hY _ => ?_) (fun D acc H1 n1 e1 hD hacc => ?_)
  · subst hR
    have hgn := gnth_at (hlt n hn)
    obtain ⟨gu, hgu, hgv⟩ := hal.at hgn
    refine g_n6 (And.intro rfl (g_yes (g_iteT (g_call (g_cons (g_v0 (g_cons (g_v6 (g_cons (g_op (g_v1 (g_v6 ?_))))))))))))
    refine g_ixX (hsq.ex e1) (at_nat hgu) ?_
    refine g_nil ?_
    exact ⟨mil, m, n, gu, gnth gs n, rfl, by walk_at "mi", hk, hgv.tx (Tx.ex e1), hok _ (List.mem_of_getElem? hgn), fun v H2 e2 h2 => hY v H2 e2 rfl h2⟩
  · rw [List.filter_eq_self.mpr (fun _ _ => rfl)] at hacc
    refine g_n5 (g_ret (g_call (g_cons (g_v0 (g_cons (g_v5 (g_cons (g_v2 (g_cons (g_v3 (g_nil ?_)))))))))))
    exact ⟨mil, D, m, ltsOf m gs ns, acc, time, ws, wv, b, rfl, by walk_at "mi", hk, hD, hacc, MOk.start hk (lts_ok hok hlt) (by unfold ltsOf; rw [List.length_map]; exact hl), by unfold ltsOf; rw [List.length_map]; exact hl, hw.tx (Tx.ex e1), hwo, hb, fun H2 e2 => hq H2 (e1.trans e2)⟩

def sp_shows (K : PySem.W.Frag) : Sp := fun vs H Q _ => ∃ (mil g : Addr) (m : List Pl) (gs : List Gv) (us : List V) (ws : Nm × Tr) (wv : V) (time : Int) (b : Bool), vs = [.ref mil, .ref g, .int time, wv] ∧ Asked K mil g m gs us ws wv H ∧ shL m gs time ws (List.range gs.length) = some b ∧ Ret (.bl b) H Q
abbrev N_shows : List Str := ["mill", "given", "time", "wish"]
theorem sc_shows : FnScope N_shows ["mill", "given", "time", "wish"] (defScope s_shows) := ⟨rfl, rfl, rfl, by decide +kernel, rfl, by decide +kernel, by decide +kernel⟩
theorem ok_shows (T : TX w K mg)  : Fn P w K mg base CX0 (26) "shows" ["mill", "given", "time", "wish"] (sp_shows K) := by
  have f_need_asked := ok_need_asked (P := P) (base := base) T
  have f_shows_left := ok_shows_left (P := P) (base := base) T
  obtain ⟨fd, F⟩ := T.d_shows
  refine mk_fn F T.g_shows sc_shows (fun vs H Q E h => by obtain ⟨_, _, _, _, _, _, _, _, _, rfl, _⟩ := h; rfl) (fun _ _ _ _ _ _ us hl => match us, hl with | [_, _, _, _], _ => rfl) (fun cdv A outer s H vs Q E hr h => ?_)
  obtain ⟨mil, g, m, gs, us, ws, wv, time, b, rfl, ha, hb, hq⟩ := h
  have hu := hu_of hr
  refine ⟨(tSeq (tDrop (tCall (sp_need_asked K) [] E0 (tCons (tVar 0) (tCons (tVar 1) (tCons (tVar 3) tNil))))) (tRet (tCall (sp_shows_left K) [] E0 (tCons (tVar 0) (tCons (tVar 1) (tCons (tVar 2) (tCons (tVar 3) (tCons (tLstRg (tRg1 (tCB (Evl.rLenS K) (tCons (tVar 1) tNil)))) tNil)))))))),
      (pss_cons (ps_expr (f_need_asked.ex.elim fun _ q => q.elim fun _ q => pe_call q.1 (hr.mono (by omega)) (by rfl) q.2.1 q.2.2.1 q.2.2.2 .nil pass0 (pa_cons (pv 0) (pa_cons (pv 1) (pa_cons (pv 3) pa_nil)))))
      (pss_one (ps_ret (f_shows_left.ex.elim fun _ q => q.elim fun _ q => pe_call q.1 (hr.mono (by omega)) (by rfl) q.2.1 q.2.2.1 q.2.2.2 .nil pass0 (pa_cons (pv 0) (pa_cons (pv 1) (pa_cons (pv 2) (pa_cons (pv 3) (pa_cons (pe_listRg rfl (by rfl) T.b_list (prg_1 (by rfl) T.b_range (pe_callB cl_len (by rfl) T.b_len bt_len (pa_cons (pv 1) pa_nil)))) pa_nil))))))))), ?_⟩
  refine g_start (σ' := [some _, some _, some _, some _]) rfl ?_
  refine g_seq (g_drop (g_call (g_cons (g_v0 (g_cons (g_v1 (g_cons (g_v3 (g_nil ?_)))))))))
  refine ⟨mil, g, m, gs, us, wv, ws, rfl, ha.mi, ha.ok, ha.hgs, ha.hws, ha.wok, fun H1 e1 => ?_⟩
  refine g_ret (g_call (g_cons (g_v0 (g_cons (g_v1 (g_cons (g_v2 (g_cons (g_v3 (g_cons (g_lrg (g_cb (g_cons (g_v1 (g_nil ?_)))))))))))))))
  refine g_lnX (ha.hgs.sq.ex e1) ?_
  refine g_lrgA (n := gs.length) (by rw [ha.hgs.al.len]) (by have := ha.hgs.few; omega) (fun p H2 n2 e2 hp => ?_)
  refine g_nil ?_
  exact ⟨mil, g, p, m, gs, us, ws, wv, time, List.range gs.length, b, rfl, ha.ex (e1.trans e2), hp, fun n hn => List.mem_range.mp hn, by rw [List.length_range]; exact ha.hgs.few, hb, fun H3 e3 => hq H3 ((e1.trans e2).trans e3)⟩
def sp_without : Sp := fun vs H Q _ => ∃ (a : Addr) (ns : List Nat) (k : Nat), vs = [.ref a, .int (k : Nat)] ∧ At H a (.lst (nV ns)) ∧ ns.length ≤ 1000 ∧ ∀ p H', H p = none → Ex H H' → At H' p (.lst (nV (ns.filter fun x => !decide (x = k)))) → Q (.ref p) H'
abbrev N_without : List Str := ["numbers", "number", "one"]
theorem sc_without : FnScope N_without ["numbers", "number"] (defScope s_without) := ⟨rfl, rfl, rfl, by decide +kernel, rfl, by decide +kernel, by decide +kernel⟩
theorem ok_without (T : TX w K mg)  : Fn P w K mg base CX0 (1) "without" ["numbers", "number"] (sp_without) := by
  obtain ⟨fd, F⟩ := T.d_without
  refine mk_fn F T.g_without sc_without (fun vs H Q E h => by obtain ⟨_, _, _, rfl, _⟩ := h; rfl) (fun _ _ _ _ _ _ us hl => match us, hl with | [_, _], _ => rfl) (fun cdv A outer s H vs Q E hr h => ?_)
  obtain ⟨a, ns, k, rfl, ha, hl, hq⟩ := h
  have hu := hu_of hr
  refine ⟨(tRet (tLc (iList K (tVar 0)) (gName 2) (tTest (tOp rNe (tVar 2) (tVar 1))) (tVar 2) [2])),
      (pss_one (ps_ret (pe_lc (own := [("one", 2)]) (wi := (iList K (tVar 0))) (g := (gName 2)) (tt := (tTest (tOp rNe (tVar 2) (tVar 1)))) (te := (tVar 2)) rfl sc_without.nd (pi_list (pv 0)) (blkOk_by (N := N_without) (sc := defScope s_without) (by decide +kernel)) (fun _ _ _ _ _ => (pg_name (i := 2) sc_without.nd rfl (Or.inl rfl))) (fun _ _ _ _ _ => (pts_one (pt_cmpR op_ne (pv 2) (pv 1) (nomark _)))) (fun _ _ _ _ _ => (pv 2))))), ?_⟩
  refine g_start (σ' := [some _, some _, none]) rfl ?_
  refine g_ret (g_lcL (g_v0 ?_))
  refine lc_pureL (R := fun (n : Nat) u _ => u = V.int (n : Int)) (S := fun (n : Nat) u _ => u = V.int (n : Int)) (ds := ns) (p := fun x => !decide (x = k)) (f := id) ha (al_eq ns) (by omega) (fun _ _ _ _ h => h) (fun _ _ _ _ t h => h) (fun n hn u H1 e1 hR Y N hY hN => ?_) (fun D acc H1 n1 e1 hD hacc => ?_)
  · subst hR
    by_cases e : n = k
    · refine g_n2 (And.intro rfl (g_tst (g_op (g_v2 (g_v1 (g_neI (g_k (g_ifN0 (by omega) ?_))))))))
      exact hN _ (Evl.Ex.refl _) (by simp [e])
    ·
      refine g_n2 (And.intro rfl (g_tst (g_op (g_v2 (g_v1 (g_neI (g_k (g_ifN1 (by omega) (g_v2 ?_)))))))))
      exact hY _ _ (Evl.Ex.refl _) (by simp [e]) rfl
  · rw [List.map_id] at hacc
    have e := al_eq_of hacc
    subst e
    exact hq D H1 n1 e1 hD
end
end PM
/-! part F18 -/
namespace PM
open PySem PySem.Spec PyProof.Rows L2 PMH
open Evl (Ex)

local macro_rules | `(tactic| walk_at "ex") => `(tactic| first
  | with_reducible assumption
  | with_reducible exact Evl.Ex.refl _
  | (refine Evl.Ex.trans ?_ (by with_reducible assumption); walk_at "ex"))
local macro_rules | `(tactic| walk_at "hx") => `(tactic| first
  | with_reducible assumption
  | (refine At.ex (by with_reducible assumption) ?_; walk_at "ex")
  | (refine Fz.tx (by with_reducible assumption) ?_; walk_at "tx")
  | (refine TrAt.ex (by with_reducible assumption) ?_; walk_at "ex")
  | (refine MlAt.tx ?_ (by with_reducible assumption); walk_at "tx")
  | (refine PlAt.tx ?_ (by with_reducible assumption); walk_at "tx")
  | (refine LtAt.tx ?_ (by with_reducible assumption); walk_at "tx")
  | (refine GvAt.tx ?_ (by with_reducible assumption); walk_at "tx")
  | (refine WsAt.tx ?_ (by with_reducible assumption); walk_at "tx")
  | (refine RwAt.tx ?_ _ _ (by with_reducible assumption); walk_at "tx")
  | (refine RwsAt.tx ?_ _ _ (by with_reducible assumption); walk_at "tx")
  | (refine RuAt.tx ?_ (by with_reducible assumption); walk_at "tx")
  | (refine PrAt.tx ?_ (by with_reducible assumption); walk_at "tx"))
local macro_rules | `(tactic| walk_at "num") => `(tactic| first
  | with_reducible assumption
  | decide
  | exact Or.inl ⟨by omega, by omega⟩
  | exact Or.inr ⟨by omega, by omega⟩
  | (refine ⟨?_, ?_⟩ <;> omega)
  | (show (0 : Int) < _; omega))
local macro_rules | `(tactic| walk_at "tx") => `(tactic| first
  | with_reducible assumption
  | (refine Tx.ex ?_; walk_at "ex"))
local macro_rules | `(tactic| walk_at "sz") => `(tactic| first
  | with_reducible assumption
  | omega
  | (refine Evl.sz_of ?_; omega)
  | (refine Evl.sz_lt ?_; omega))
local macro_rules | `(tactic| walk_at "fl") => `(tactic| first
  | rfl
  | decide +kernel)

local macro_rules | `(tactic| walk_at "mi") => `(tactic| first
  | with_reducible assumption
  | (refine MiAt.ex (by with_reducible assumption) ?_; walk_at "ex"))
theorem passOf_len {sh : List Nat → Option Bool} : ∀ {ns left l : List Nat}, passOf sh ns left = some l → l.length ≤ left.length ∧ ∀ n ∈ l, n ∈ left
  | [], left, l, h => by
    simp only [passOf, Option.some.injEq] at h
    subst h
    exact ⟨Nat.le_refl _, fun _ m => m⟩
  | n :: ns, left, l, h => by
    unfold passOf at h
    split at h
    · cases h
    · have := passOf_len h
      exact ⟨Nat.le_trans this.1 (List.length_filter_le _ _), fun x m => (List.mem_filter.mp (this.2 x m)).1⟩
    · exact passOf_len h
section
variable {P : Program} {w : World} {K : PySem.W.Frag} {mg : Str → Option Value} {base : Heap}
def sp_cut_down (K : PySem.W.Frag) : Sp := fun vs H Q _ => ∃ (mil g : Addr) (m : List Pl) (gs : List Gv) (us : List V) (ws : Nm × Tr) (wv : V) (time : Int) (res : List Nat), vs = [.ref mil, .ref g, .int time, wv] ∧ Asked K mil g m gs us ws wv H ∧ shL m gs time ws (List.range gs.length) = some true ∧
  cutRun (shL m gs time ws) 9 (List.range gs.length) = some res ∧ ∀ p H', H p = none → Ex H H' → At H' p (.lst (nV res)) → Q (.ref p) H'
abbrev N_cut_down : List Str := ["mill", "given", "time", "wish", "left", "size", "number"]
theorem sc_cut_down : FnScope N_cut_down ["mill", "given", "time", "wish"] (defScope s_cut_down) := ⟨rfl, rfl, rfl, by decide +kernel, rfl, by decide +kernel, by decide +kernel⟩
theorem ok_cut_down (T : TX w K mg)  : Fn P w K mg base CX0 (27) "cut_down" ["mill", "given", "time", "wish"] (sp_cut_down K) := by
  have f_shows := ok_shows (P := P) (base := base) T
  have f_shows_left := ok_shows_left (P := P) (base := base) T
  have f_without := ok_without (P := P) (base := base) T
  obtain ⟨fd, F⟩ := T.d_cut_down
  refine mk_fn F T.g_cut_down sc_cut_down (fun vs H Q E h => by obtain ⟨_, _, _, _, _, _, _, _, _, rfl, _⟩ := h; rfl) (fun _ _ _ _ _ _ us hl => match us, hl with | [_, _, _, _], _ => rfl) (fun cdv A outer s H vs Q E hr h => ?_)
  obtain ⟨mil, g, m, gs, us, ws, wv, time, res, rfl, ha, hb, hcut, hq⟩ := h
  have hu := hu_of hr
  refine ⟨(tSeq (tIfS (tNot (tB (tCall (sp_shows K) [] E0 (tCons (tVar 0) (tCons (tVar 1) (tCons (tVar 2) (tCons (tVar 3) tNil))))))) tNever tNext) (tSeq (tAsg (tLstRg (tRg1 (tCB (Evl.rLenS K) (tCons (tVar 1) tNil)))) (gName 4)) (tSeq (tAsg (tOp rAddI (tCB (Evl.rLenS K) (tCons (tVar 4) tNil)) (tC (.int 1))) (gName 5)) (tSeq (tWhile (tTest (tOp rLtI (tCB (Evl.rLenS K) (tCons (tVar 4) tNil)) (tVar 5))) (tSeq (tAsg (tCB (Evl.rLenS K) (tCons (tVar 4) tNil)) (gName 5)) (tFor (iList K (tCB (Evl.rListS K) (tCons (tVar 4) tNil))) (gName 6) (tIfS (tB (tCall (sp_shows_left K) [] E0 (tCons (tVar 0) (tCons (tVar 1) (tCons (tVar 2) (tCons (tVar 3) (tCons (tCall sp_without [] E0 (tCons (tVar 4) (tCons (tVar 6) tNil))) tNil))))))) (tAsg (tCall sp_without [] E0 (tCons (tVar 4) (tCons (tVar 6) tNil))) (gName 4)) tNext)))) (tRet (tVar 4)))))),
      (pss_cons (ps_if (pt_not (pt_val (f_shows.ex.elim fun _ q => q.elim fun _ q => pe_call q.1 (hr.mono (by omega)) (by rfl) q.2.1 q.2.2.1 q.2.2.2 .nil pass0 (pa_cons (pv 0) (pa_cons (pv 1) (pa_cons (pv 2) (pa_cons (pv 3) pa_nil))))))) (pss_one ps_never) pss_nil)
      (pss_cons (ps_set (i := 4) sc_cut_down.nd rfl (Or.inl rfl) (pe_listRg rfl (by rfl) T.b_list (prg_1 (by rfl) T.b_range (pe_callB cl_len (by rfl) T.b_len bt_len (pa_cons (pv 1) pa_nil)))))
      (pss_cons (ps_set (i := 5) sc_cut_down.nd rfl (Or.inl rfl) (pe_op op_add (pe_callB cl_len (by rfl) T.b_len bt_len (pa_cons (pv 4) pa_nil)) pe_int))
      (pss_cons (ps_while PassesOwn.never (pt_cmpR op_lt (pe_callB cl_len (by rfl) T.b_len bt_len (pa_cons (pv 4) pa_nil)) (pv 5) (nomark _)) (pss_cons (ps_set (i := 5) sc_cut_down.nd rfl (Or.inl rfl) (pe_callB cl_len (by rfl) T.b_len bt_len (pa_cons (pv 4) pa_nil)))
      (pss_one (ps_for PassesOwn.never rfl (pi_list (pe_callTy cl_list (by rfl) T.b_list bt_list (pa_cons (pv 4) pa_nil))) (pg_name (i := 6) sc_cut_down.nd rfl (Or.inl rfl)) (pss_one (ps_if (pt_val (f_shows_left.ex.elim fun _ q => q.elim fun _ q => pe_call q.1 (hr.mono (by omega)) (by rfl) q.2.1 q.2.2.1 q.2.2.2 .nil pass0 (pa_cons (pv 0) (pa_cons (pv 1) (pa_cons (pv 2) (pa_cons (pv 3) (pa_cons (f_without.ex.elim fun _ q => q.elim fun _ q => pe_call q.1 (hr.mono (by omega)) (by rfl) q.2.1 q.2.2.1 q.2.2.2 .nil pass0 (pa_cons (pv 4) (pa_cons (pv 6) pa_nil))) pa_nil))))))) (pss_one (ps_set (i := 4) sc_cut_down.nd rfl (Or.inl rfl) (f_without.ex.elim fun _ q => q.elim fun _ q => pe_call q.1 (hr.mono (by omega)) (by rfl) q.2.1 q.2.2.1 q.2.2.2 .nil pass0 (pa_cons (pv 4) (pa_cons (pv 6) pa_nil))))) pss_nil))))))
      (pss_one (ps_ret (pv 4))))))), ?_⟩
  refine g_start (σ' := [some _, some _, some _, some _, none, none, none]) rfl ?_
  have hfew := ha.hgs.few
  refine g_seq (g_ifs (g_not (g_tB (g_call (g_cons (g_v0 (g_cons (g_v1 (g_cons (g_v2 (g_cons (g_v3 (g_nil ?_)))))))))))))
  refine ⟨mil, g, m, gs, us, ws, wv, time, true, rfl, ha, hb, fun H1 e1 => ?_⟩
  refine g_k (g_iteF (g_next (g_seq (g_asg (g_lrg (g_cb (g_cons (g_v1 (g_nil ?_)))))))))
  refine g_lnX (ha.hgs.sq.ex e1) ?_
  refine g_lrgA (n := gs.length) (by rw [ha.hgs.al.len]) (by omega) (fun p H2 n2 e2 hp => ?_)
  have e12 := e1.trans e2
  refine g_n4 (g_seq (g_asg (g_op (g_cb (g_cons (g_v4 (g_nil (g_lnL (by walk_at "hx") (g_c (g_I0 (g_n5 (g_seq ?_))))))))))))
  refine g_while (fun k σ' H' => ∃ (la : Addr) (ns : List Nat) (sz : Int) (x : Option V), σ' = [some (.ref mil), some (.ref g), some (.int time), some wv, some (.ref la), some (.int sz), x] ∧ Ex H H' ∧ H la = none ∧ At H' la (.lst (nV ns)) ∧ (∀ n ∈ ns, n < gs.length) ∧ ns.length ≤ 8 ∧
    (((ns.length : Int) < sz ∧ cutRun (shL m gs time ws) k ns = some res ∧ ns.length < k) ∨ (¬ (ns.length : Int) < sz ∧ ns = res)))
    ⟨9, p, List.range gs.length, _, _, rfl, e12, fresh_back e1 n2, hp, fun n hn => List.mem_range.mp hn, by rw [List.length_range]; exact hfew, .inl ⟨by simp; omega, hcut, by rw [List.length_range]; omega⟩⟩ (fun k σ' H' w1 => ?_)
  obtain ⟨la, ns, sz, x, rfl, e3, nla, hla, hlt, hl8, hcase⟩ := w1
  have el : ((nV ns).length : Int) = (ns.length : Int) := by simp
  rcases hcase with ⟨hsz, hrun, hk⟩ | ⟨hsz, rfl⟩
  · cases k with
    | zero => omega
    | succ k =>
      unfold cutRun at hrun
      cases hpass : passOf (shL m gs time ws) ns ns with
      | none => rw [hpass] at hrun; cases hrun
      | some l1 =>
        rw [hpass] at hrun
        simp only at hrun
        have hpl := passOf_len hpass
        refine g_tst (g_op (g_cb (g_cons (g_v4 (g_nil (g_lnL (by walk_at "hx") (g_v5 (g_I0 (g_k (g_ifD1 (by rw [el]; exact hsz) (g_turn (g_seq (g_asg (g_cb (g_cons (g_v4 (g_nil (g_lnL (by walk_at "hx") (g_n5 (g_forL (g_cb (g_cons (g_v4 (g_nil ?_))))))))))))))))))))))))
        refine g_listL hla (fun c H3 n3 e4 hc => ?_)

        refine fo_L hc (fun i σ' H4 => (∃ (lb : Addr) (left : List Nat) (y : Option V), σ' = [some (.ref mil), some (.ref g), some (.int time), some wv, some (.ref lb), some (.int ((nV ns).length : Nat)), y] ∧ H lb = none ∧ At H4 lb (.lst (nV left)) ∧ (∀ n ∈ left, n ∈ ns) ∧ left.length ≤ 8 ∧ passOf (shL m gs time ws) (ns.drop i) left = some l1) ∧ Ex H3 H4)
          ⟨⟨la, ns, _, rfl, nla, hla.ex e4, fun _ m => m, hl8, hpass⟩, Evl.Ex.refl _⟩ (fun i σ' H4 w2 => hc.ex w2.2) (fun i u σ' H4 hi w2 => ?_) (fun σ' H4 w2 => ?_)
        · obtain ⟨⟨lb, left, y, rfl, nlb, hlb, hsub, hlf, hps⟩, e5⟩ := w2
          rw [List.getElem?_map] at hi
          obtain ⟨n, hn, rfl⟩ := Option.map_eq_some_iff.mp hi
          have hnl := (List.getElem?_eq_some_iff.mp hn).1
          have hdr : ns.drop i = n :: ns.drop (i + 1) := by
            rw [← (List.getElem?_eq_some_iff.mp hn).2]
            exact List.drop_eq_getElem_cons hnl
          rw [hdr] at hps
          unfold passOf at hps
          have e34 := e3.trans (e4.trans e5)
          refine g_n6 (g_ifs (g_tB (g_call (g_cons (g_v0 (g_cons (g_v1 (g_cons (g_v2 (g_cons (g_v3 (g_cons (g_call (g_cons (g_v4 (g_cons (g_v6 (g_nil ?_))))))))))))))))))
          refine ⟨lb, left, n, rfl, hlb, by omega, fun q H5 n5 e6 hq5 => ?_⟩
          refine g_nil ?_
          cases hsh : shL m gs time ws (left.filter fun x => !decide (x = n)) with
          | none => rw [hsh] at hps; cases hps
          | some b =>
            rw [hsh] at hps
            have hfl := List.length_filter_le (fun x => !decide (x = n)) left
            refine ⟨mil, g, q, m, gs, us, ws, wv, time, _, b, rfl, ha.ex (e34.trans e6), hq5, fun z hz => hlt z (hsub z (List.mem_filter.mp hz).1), by omega, hsh, fun H6 e7 => ?_⟩
            cases b with
            | true =>
              refine g_k (g_iteT (g_asg (g_call (g_cons (g_v4 (g_cons (g_v6 (g_nil ?_))))))))
              refine ⟨lb, left, n, rfl, hlb.ex (e6.trans e7), by omega, fun q2 H7 n7 e8 hq7 => ?_⟩
              refine g_n4 ?_
              exact ⟨⟨q2, _, _, rfl, fresh_back (e34.trans (e6.trans e7)) n7, hq7, fun z hz => hsub z (List.mem_filter.mp hz).1, by omega, hps⟩, e5.trans (e6.trans (e7.trans e8))⟩
            | false =>
              refine g_k (g_iteF (g_next ?_))
              exact ⟨⟨lb, left, _, rfl, nlb, hlb.ex (e6.trans e7), hsub, hlf, hps⟩, e5.trans (e6.trans e7)⟩
        · obtain ⟨⟨lb, left, y, rfl, nlb, hlb, hsub, hlf, hps⟩, e5⟩ := w2
          have hd : ns.drop (nV ns).length = [] := List.drop_eq_nil_of_le (by simp)
          rw [hd] at hps
          simp only [passOf, Option.some.injEq] at hps
          subst hps
          refine ⟨k, by omega, lb, left, _, y, rfl, e3.trans (e4.trans e5), nlb, hlb, fun z hz => hlt z (hsub z hz), hlf, ?_⟩
          rw [el]
          by_cases hsm : left.length < ns.length
          · rw [if_pos hsm] at hrun
            exact .inl ⟨by omega, hrun, by omega⟩
          · rw [if_neg hsm] at hrun
            exact .inr ⟨by omega, Option.some.inj hrun⟩
  ·
    refine g_tst (g_op (g_cb (g_cons (g_v4 (g_nil (g_lnL (by walk_at "hx") (g_v5 (g_I0 (g_k (g_ifD0 (by rw [el]; exact hsz) (g_ret (g_v4 ?_))))))))))))
    exact hq la H' nla e3 hla
end
end PM
/-! part PW -/
namespace PM
open PySem PySem.Spec PyProof.Rows L2 PMH
/-! ### a caught exception as a thing of the heap -/
/-- what stays known of it: its class, that it has no dict -/
def ExcO (a : Addr) (cls : Value) : HO := .ext fun h => ∃ oe : Obj, h.get? a = some oe ∧ oe.cls = cls ∧ oe.dict = none ∧ ∃ us, oe.data = .fields us
theorem tracked_exc {X : Cx} {pins : List (Addr × Obj)} {σ : L2.St} {H : Hp} {s : Shared} {a : Addr} {oe : Obj} {cls : Value} (J : Inv X ((a, oe) :: pins) σ H s) (c1 : oe.cls = cls) (c2 : oe.dict = none) (c3 : ∃ us, oe.data = .fields us)
    (n0 : X.s_0.heap.get? a = none) (np : ∀ p ∈ X.pn ++ pins, p.1 ≠ a) : Inv X pins σ (upd H a (ExcO a cls)) s := by
  obtain ⟨q1, q2, q3, q4, q5⟩ := J.pin (a, oe) (List.mem_append_right _ List.mem_cons_self)
  simp only at q1 q2 q3 q4 q5
  have off : ∀ {b : Addr} {u : HO}, H b = some u → b ≠ a := fun e z => by
    rw [z, q2] at e
    cases e
  have old : ∀ {b : Addr} {u : HO}, H b = some u → upd H a (ExcO a cls) b = some u := fun e => by
    rw [upd_ne (off e)]
    exact e
  have none' : ∀ {b : Addr}, H b = none → b ≠ a → upd H a (ExcO a cls) b = none := fun e n => by
    rw [upd_ne n]
    exact e
  have U := J.base
  refine { J with base := ⟨U.keep, U.slot, fun b o e n hx => none' (U.free b o e n hx) (fun z => ?_), U.there, fun b xs e => old (U.tups b xs e), fun b o u e => old (U.frzs b o u e), fun b ps e => ?_⟩, free := none' J.free (Ne.symm q3), freeC := fun x c e => none' (J.freeC x c e) (fun z => ?_), pin := fun p hp => ?_, hok := fun b u e => ?_ }
  · rw [z, n0] at e
    cases e
  · obtain ⟨more, e2⟩ := U.tbls b ps e
    exact ⟨more, old e2⟩
  · obtain ⟨v, o, e1, e2⟩ := J.cell x c e
    rw [z, q1] at e1
    cases e1
    exact q5 v e2
  · have hp' : p ∈ X.pn ++ (a, oe) :: pins := by
      rcases List.mem_append.mp hp with h | h
      · exact List.mem_append_left _ h
      · exact List.mem_append_right _ (List.mem_cons_of_mem _ h)
    obtain ⟨r1, r2, r3⟩ := J.pin p hp'
    exact ⟨r1, none' r2 (np p hp), r3⟩
  · by_cases z : b = a
    · subst z
      rw [upd_same] at e
      cases e
      exact ⟨⟨oe, q1, c1, c2, c3⟩, ⟨oe, q1⟩, fun h1 h2 ⟨o1, e1, r⟩ st => ⟨o1, st _ e1, r⟩⟩
    · rw [upd_ne z] at e
      exact (J.hok b u e).stay (fun _ _ _ e => e) (fun _ e => old e) fun _ _ e => old e
/-- what is wished where the one clause names the caught one and its suite puts it into slot j -/
def wCatch (K : PySem.W.Frag) (c : Value) (i j l : Nat) (D : Ends) : WX := fun cls d σ H =>
  PySem.W.exmOne K cls c = some true ∧ d = none ∧ ∀ a, σ.length = l → H a = none → D.nx (((σ.set i (some (.ref a))).set j (some (.ref a))).set i none) (upd H a (ExcO a cls))
section
variable {X : Cx} {pins : List (Addr × Obj)} {σ : L2.St} {H : Hp} {t0 s2 : Shared} {G h : Heap} {a : Addr} {cls : Value}
/-- an end of the body, seen from around the try -/
theorem sp_home {xe : Value → Shared → Prop} {D : Ends} {f : Flow} {s1 : Shared} (good : X.Ok) (out : SP (X.tr (X.pn ++ pins) xe) [] D f s1) : SP X pins D f s1 :=
  match f, out with
  | .next, ⟨σ1, H1, J, q⟩ => ⟨σ1, H1, J.ofTry good, q⟩
  | .brk, ⟨σ1, H1, J, q⟩ => ⟨σ1, H1, J.ofTry good, q⟩
  | .cont, ⟨σ1, H1, J, q⟩ => ⟨σ1, H1, J.ofTry good, q⟩
  | .ret _, ⟨v, σ1, H1, J, q⟩ => ⟨v, σ1, H1, J.ofTry good, q⟩
/-- what holds from the raise on: J, the state ahead of it; G, all of its heap that is no frame's; a, the exception, is new -/
structure Raised (X : Cx) (pins : List (Addr × Obj)) (σ : L2.St) (H : Hp) (t0 : Shared) (G : Heap) (a : Addr) : Prop where
  J : Inv X pins σ H t0
  inG : ∀ b o, t0.heap.get? b = some o → b ∉ frs X.stack → G.get? b = some o
  free : H a = none
  top : X.stack = X.env :: X.outer
  mine : X.env.frame = some X.env.locals
abbrev InAir (X : Cx) (G : Heap) (a : Addr) (cls : Value) (h : Heap) : Prop := HandSPX.FlyingZ G (X.env :: X.outer) a (Zc cls none) h
/-- an exception in the air is no frame -/
theorem no_frame (fl : InAir X G a cls h) : a ∉ frs (X.env :: X.outer) := fun m => by
  obtain ⟨-, o, there, no⟩ := fl.2.2.1.mem m
  obtain ⟨o', us, there', -, dat⟩ := fl.there
  exact no us (Option.some.inj (there.symm.trans there') ▸ dat)
theorem Raised.apart (r : Raised X pins σ H t0 G a) (fl : InAir X G a cls h) : a ≠ X.env.locals ∧ a ∉ X.fs := by
  have split : frs (X.env :: X.outer) = X.env.locals :: X.fs := by
    show List.filterMap _ (X.env :: X.outer) = _
    rw [List.filterMap_cons, r.mine]
    rfl
  exact List.ne_and_not_mem_of_not_mem_cons (split ▸ no_frame fl)
theorem Raised.new (r : Raised X pins σ H t0 G a) (fl : InAir X G a cls h) (o : Obj) : t0.heap.get? a ≠ some o := fun e => by
  have z := r.inG a o e (r.top ▸ no_frame fl)
  rw [fl.2.1] at z
  cases z
/-- the suite begins: the exception is pinned -/
theorem Raised.lands (r : Raised X pins σ H t0 G a) (fl : InAir X G a cls h) (up : t0.heap.UpToSlots h) (same : s2.os = t0.os) (bare : AllBare s2.gens) :
    ∃ o, h.get? a = some o ∧ o.cls = cls ∧ o.dict = none ∧ (∃ us, o.data = .fields us) ∧ Inv (X.suite a ((a, o) :: (X.pn ++ pins))) [] σ H { s2 with heap := h } := by
  obtain ⟨o, us, there, ⟨isC, noD⟩, dat⟩ := fl.there
  have home : Inv X pins σ H { s2 with heap := h } := r.J.landed r.inG fl.1 up same bare
  exact ⟨o, there, isC, noD, ⟨us, dat⟩, home.suite there dat r.free (r.apart fl).1 (r.apart fl).2⟩
/-- behind the suite: the pin goes, the exception is a thing of the heap -/
theorem Raised.tracked (r : Raised X pins σ H t0 G a) (fl : InAir X G a cls h) (own : X.ex = []) {σ' : L2.St} {H' : Hp} {s' : Shared} {o : Obj} (K : Inv X ((a, o) :: pins) σ' H' s') (isC : o.cls = cls) (noD : o.dict = none) (dat : ∃ us, o.data = .fields us) :
    Inv X pins σ' (upd H' a (ExcO a cls)) s' := by
  refine tracked_exc K isC noD dat (Option.eq_none_iff_forall_ne_some.mpr fun o e => ?_) fun p m e => r.new fl p.2 (e ▸ (r.J.pin p m).1)
  have ⟨o', e'⟩ := r.J.base.there a o e (own ▸ List.not_mem_nil)
  exact r.new fl o' e'
theorem unpin {o : Obj} (K : Inv (X.suite a ((a, o) :: (X.pn ++ pins))) [] σ H s2) (good : X.Ok) : Inv X ((a, o) :: pins) σ H s2 where
  ok := good
  os := K.os
  bare := K.bare
  base := K.base
  loc := K.loc
  cell := K.cell
  free := K.free
  freeC := K.freeC
  hok := K.hok
  len := K.len
  pin p m := K.pin p (by
    have m' : p ∈ X.pn ∨ p = (a, o) ∨ p ∈ pins := by simpa using m
    show p ∈ ((a, o) :: (X.pn ++ pins)) ++ []
    rw [List.append_nil, List.mem_cons, List.mem_append]
    exact m'.elim (fun z => .inr (.inl z)) fun z => z.imp_right .inr)
end
section
variable {X : Cx} {x n m : Str} {c : Value} {i j : Nat} {body : List Stmt} {np p1 p2 p3 hpos pos : Pos} {tb : WX → TS}
/-- try: body / except x as n: m = n, of an exception that is surely caught -/
theorem ps_catch (hs : X.stack = X.env :: X.outer) (hf : X.env.frame = some X.env.locals) (hex : X.ex = []) (hN : X.N.Nodup) (hi : X.N[i]? = some n) (hj : X.N[j]? = some m) (ln : X.env.kindOf n = some .local) (lm : X.env.kindOf m = some .local)
    (hg : Gl X x) (hm : X.mg x = some c) (dx : (x == ("__debug__" : Str)) = false) (dn : (n == ("__debug__" : Str)) = false) (dc : (n == ("__classdict__" : Str)) = false)
    (hb : ∀ (W : WX) (pn : List (Addr × Obj)) (xe : Value → Shared → Prop), Takes (X.tr pn xe) W → PSs (X.tr pn xe) body (tb W)) :
    PS X (.Try body [.ExceptHandler (some (.Name x np)) (some n) [.Assign [.Name m p1] (.Name n p2) p3] hpos] [] [] pos) (fun D σ H => tb (wCatch X.K c i j X.N.length D) D σ H) where
  run pins s σ H D I h := by
    refine wpAny_Try_except (wpAny_mono ((hb _ (X.pn ++ pins) _ ?caught).run [] s σ H D (I.toTry _) h) (fun f s1 out => ?_) fun _ _ z => z)
    case caught =>
      rintro _ s2 ⟨a, G, t0, _, σ1, H1, cls, _, rfl, J, inG, up, sky, na, same, bare, hit, rfl, go⟩
      have r : Raised X pins σ1 H1 t0 G a := ⟨J.ofTry I.ok, inG, na, hs, hf⟩
      refine Sky.land Zc.steady (I.ok.frames.trans (congrArg some hs)) hf (hs ▸ sky) fun h3 fl3 up3 => ?_
      obtain ⟨o3, at3, isC3, -, -, K3⟩ := r.lands (s2 := s2) fl3 (up.trans up3) same bare
      have asked := PySem.W.exm_one (M := model X.prog X.w) K3.kIn (fun _ _ _ _ keep q => wpAny_typeOf_ref (keep _ _ at3) (isC3.symm ▸ q)) hit
      refine wpAny_handleBy_cons (codeAny_handlers_test (ld_glob (X := X.suite a ((a, o3) :: (X.pn ++ pins))) K3 hg hm (asked.here (codeAny_handlers_suite_as (HandSPX.lands_againZ fl3 fun h4 fl4 up4 => ?_))) dx)) (fun z => nomatch z)
      obtain ⟨o4, -, isC4, noD4, dat4, K4⟩ := r.lands (s2 := s2) fl4 ((up.trans up3).trans up4) same bare
      refine store_ok (X := X.suite a ((a, o4) :: (X.pn ++ pins))) (v := .ref a) K4 hN hi (.inl ln) rfl (fun s5 K5 => ?_) (.inr ln)
      have move : PSs (X.suite a ((a, o4) :: (X.pn ++ pins))) [.Assign [.Name m p1] (.Name n p2) p3] (tAsg (tVar i) (gName j)) := pss_one (ps_set hN hj (.inl lm) (pe_var hi (.inl ln) dn dc) (hf := .inr lm))
      have inside : i < σ1.length := by rw [J.len]; exact (List.getElem?_eq_some_iff.mp hi).1
      refine wpAny_mono (move.run [] s5 _ H1 { nx := fun σ2 H2 => σ2 = (σ1.set i (some (.ref a))).set j (some (.ref a)) ∧ H2 = H1, rt := fun _ _ => False } K5 ⟨.ref a, List.getElem?_set_self inside, rfl, rfl⟩) (fun f s6 out => ?_) fun _ _ z => z.elim
      match f, out with
      | .brk, ⟨_, _, _, z⟩ => exact z.elim
      | .cont, ⟨_, _, _, z⟩ => exact z.elim
      | .ret _, ⟨_, _, _, _, _, z⟩ => exact z.elim
      | .next, ⟨_, _, K6, rfl, rfl⟩ => exact gone_ok (unpin K6 I.ok) hN hi ln fun s7 K7 => ⟨_, _, r.tracked fl4 hex K7 isC4 noD4 dat4, go a J.len na⟩
    have home := sp_home I.ok out
    cases f with
    | next => exact wpAny_execs_nil home
    | _ => exact home
end
/-- isinstance can be asked of every exception of the class that has no dict -/
def ExcC (K : PySem.W.Frag) (C : Addr) : Prop := ∀ (a : Addr) (oe : Obj), PySem.W.KitX K (.ref a) (.ref C) fun h => PySem.W.InstAt h a oe C none
theorem TX.excC {w : World} {K : PySem.W.Frag} {mg : Str → Option Value} (T : TX w K mg) : ExcC K (He.ga K "NoRow") := fun a oe => by
  obtain ⟨h1, h⟩ := He.ba (show PMH.exF K = true from T.exF)
  obtain ⟨h2, h⟩ := He.ba h
  obtain ⟨h3, h⟩ := He.ba h
  obtain ⟨h4, h⟩ := He.ba h
  obtain ⟨h5, h⟩ := He.ba h
  obtain ⟨h6, h7⟩ := He.ba h
  obtain ⟨g, hg⟩ := Option.isSome_iff_exists.mp h3
  exact PySem.W.kitx_exc h1 (He.eqO_ok h2) hg T.x_NoRow.2.2.1 (He.eqO_ok h4) (He.eqO_ok h5) (of_decide_eq_true h6) (of_decide_eq_true h7)
/-- isinstance(e, c) of a caught exception -/
def rIsiE (K : PySem.W.Frag) : List V → Hp → VK → Prop := fun xs H Q => ∃ (a C : Addr) (c : V) (u : Value) (b : Bool), xs = [.ref a, c] ∧ ClsV c u ∧ H a = some (ExcO a (.ref C)) ∧ ExcC K C ∧ PySem.W.kitOne K (.ref C) u = some b ∧ Q (.bl b) H
theorem call_isiE {X : Cx} : CallR X (.builtin "isinstance") (rIsiE X.K) := fun pins s σ H xs us Q I r ⟨a, C, c, u, b, is, cl, at_, asks, ans, q⟩ => by
  subst is
  obtain ⟨v1, v2, rfl, r1, r2⟩ := vals2 r
  obtain rfl : v1 = .ref a := r1
  have e2 := cl.eq r2
  subst e2
  obtain ⟨⟨oe, there, isC, noD, us, dat⟩, -, -⟩ := I.hok a _ at_
  have inst : PySem.W.InstAt s.heap a oe C none := ⟨there, isC, by unfold PySem.W.notCls; rw [dat], by rw [noD]; trivial⟩
  exact PySem.W.kia_one (asks a oe) I.kIn inst ans (fun z => nomatch z) fun tk => ⟨.bl b, H, I.tok tk, rfl, q⟩
theorem g_isiE {K : PySem.W.Frag} {H : Hp} {Q : VK} {a C : Addr} {c : V} {u : Value} {b : Bool} (ha : At H a (ExcO a (.ref C))) (x : ExcC K C) (k : ClsV c u) (e : PySem.W.kitOne K (.ref C) u = some b) (q : Q (.bl b) H) : rIsiE K [.ref a, c] H Q := ⟨a, C, c, u, b, rfl, k, ha, x, e, q⟩
/-! ### xs.count(True) -/
def rCountB (K : PySem.W.Frag) : V → List V → Hp → VK → Prop := fun x xs H Q => ∃ (p : Addr) (bs : List Bool) (b : Bool), x = .ref p ∧ xs = [.bl b] ∧ SqL K H p (bs.map V.bl) ∧ Q (.int ((bs.countP fun y => y == b : Nat) : Int)) H
theorem bools_read {h : Heap} : ∀ {bs : List Bool} {us : List Value}, Vals (bs.map V.bl) us → ∃ as, ReadsAll h us (bs.map PyData.bool) as
  | [], us, r => by
    rw [List.map_nil] at r
    cases r
    exact ⟨_, .nil⟩
  | b :: bs, us, r => by
    rw [List.map_cons] at r
    cases r with
    | @cons _ u _ ws r1 rs =>
      obtain rfl : u = Value.bool b := r1
      obtain ⟨as, q⟩ := bools_read rs
      exact ⟨_, .cons (.bool b) q⟩
theorem bools_plain : ∀ bs : List Bool, PyData.plainAll (bs.map PyData.bool) = true
  | [] => rfl
  | b :: bs => by
    have := bools_plain bs
    simp [PyData.plainAll, PyData.plain, this]
theorem mt_countB {X : Cx} (hu : X.A.units + 64 < cLine) : MtR X "list.count" (rCountB X.K) := by
  intro pins s σ H x xs v us Q I rx rxs h
  obtain ⟨p, bs, b, rfl, rfl, hs, q⟩ := h
  obtain rfl : v = Value.ref p := rx
  obtain ⟨u, rfl, ru⟩ := rxs.one
  obtain rfl : u = Value.bool b := ru
  obtain ⟨its, rv, pl, _⟩ := I.list hs
  obtain ⟨as, ra⟩ := bools_read (h := s.heap) rv
  refine PySem.SeqAt.count_list_data (xs := bs.map PyData.bool) (d := .bool b) pl.isList ra (.bool b) (bools_plain bs) rfl ?_ ?_
  · have : PyData.depth (.bool b) = 0 := by simp [PyData.depth]
    omega
  · refine ⟨.int ((bs.countP fun y => y == b : Nat) : Int), H, I.tok _, ⟨s.toks, ?_⟩, q⟩
    rw [List.countP_map]
    rfl
theorem g_countB {K : PySem.W.Frag} {H : Hp} {Q : VK} {p : Addr} {bs : List Bool} {b : Bool} (h : At H p (.lst (bs.map V.bl))) (q : Q (.int ((bs.countP fun y => y == b : Nat) : Int)) H) : rCountB K (.ref p) [.bl b] H Q := ⟨p, bs, b, rfl, rfl, h.sqL, q⟩
end PM
/-! part F33 -/
namespace PM
open PySem PySem.Spec PyProof.Rows L2 PMH
open Evl (Ex)

local macro_rules | `(tactic| walk_at "ex") => `(tactic| first
  | with_reducible assumption
  | with_reducible exact Evl.Ex.refl _
  | (refine Evl.Ex.trans ?_ (by with_reducible assumption); walk_at "ex"))
local macro_rules | `(tactic| walk_at "hx") => `(tactic| first
  | with_reducible assumption
  | (refine At.ex (by with_reducible assumption) ?_; walk_at "ex")
  | (refine Fz.tx (by with_reducible assumption) ?_; walk_at "tx")
  | (refine TrAt.ex (by with_reducible assumption) ?_; walk_at "ex")
  | (refine MlAt.tx ?_ (by with_reducible assumption); walk_at "tx")
  | (refine PlAt.tx ?_ (by with_reducible assumption); walk_at "tx")
  | (refine LtAt.tx ?_ (by with_reducible assumption); walk_at "tx")
  | (refine GvAt.tx ?_ (by with_reducible assumption); walk_at "tx")
  | (refine WsAt.tx ?_ (by with_reducible assumption); walk_at "tx")
  | (refine RwAt.tx ?_ _ _ (by with_reducible assumption); walk_at "tx")
  | (refine RwsAt.tx ?_ _ _ (by with_reducible assumption); walk_at "tx")
  | (refine RuAt.tx ?_ (by with_reducible assumption); walk_at "tx")
  | (refine PrAt.tx ?_ (by with_reducible assumption); walk_at "tx"))
local macro_rules | `(tactic| walk_at "num") => `(tactic| first
  | with_reducible assumption
  | decide
  | exact Or.inl ⟨by omega, by omega⟩
  | exact Or.inr ⟨by omega, by omega⟩
  | (refine ⟨?_, ?_⟩ <;> omega)
  | (show (0 : Int) < _; omega))
local macro_rules | `(tactic| walk_at "tx") => `(tactic| first
  | with_reducible assumption
  | (refine Tx.ex ?_; walk_at "ex"))
local macro_rules | `(tactic| walk_at "sz") => `(tactic| first
  | with_reducible assumption
  | omega
  | (refine Evl.sz_of ?_; omega)
  | (refine Evl.sz_lt ?_; omega))
local macro_rules | `(tactic| walk_at "fl") => `(tactic| first
  | rfl
  | decide +kernel)

def tRaiseN (K : PySem.W.Frag) (E : XK) : TS := fun _ _ H => E (.ref (He.ga K "NoRow")) none H
theorem g_raiseN {K : PySem.W.Frag} {E : XK} {D : Ends} {σ : L2.St} {H : Hp} (h : E (.ref (He.ga K "NoRow")) none H) : tRaiseN K E D σ H := h
section
variable {P : Program} {w : World} {K : PySem.W.Frag} {mg : Str → Option Value} {base : Heap}
theorem mk_fnX {x nm qual : Str} {st : Stmt} {N ps : List Str} {k : Nat} {sp : Sp} {f : Addr} {fd : FuncData} (F : FunD K nm qual (defArgs st) (defBody st) (defScope st) [] [] f fd) (hm : mg x = some (.ref f)) (sc : FnScope N ps (defScope st)) (len : Counts sp ps) (bind : Plain nm qual st ps)
    (body : ∀ (cdv : Value) (A : Around) (outer : List Env) (s : Shared) (H : Hp) (vs : List V) (Q : VK) (E : XK), Room k (A.deeper (envOfC qual (defScope st) s.heap.objs.size f cdv)) → sp vs H Q E → ∃ t, PSs (cxOf (L2.CX P w) P w K mg base N qual (defScope st) f cdv A outer s H E) (defBody st) t ∧ Ends1 N vs H Q t) :
    Fn P w K mg base (L2.CX P w) (k + 1) x ps sp := ⟨f, fd, F.ok sc len body, hm, F.kp, F.bindsN bind⟩
/-- what isn't shown is refused -/
def sp_cut_downX (K : PySem.W.Frag) : Sp := fun vs H Q E => ∃ (mil g : Addr) (m : List Pl) (gs : List Gv) (us : List V) (ws : Nm × Tr) (wv : V) (time : Int), vs = [.ref mil, .ref g, .int time, wv] ∧ Asked K mil g m gs us ws wv H ∧ shL m gs time ws (List.range gs.length) = some false ∧ ∀ H', Ex H H' → E (.ref (He.ga K "NoRow")) none H'
theorem ok_cut_downX (T : TX w K mg) : Fn P w K mg base (L2.CX P w) 28 "cut_down" ["mill", "given", "time", "wish"] (sp_cut_downX K) := by
  have f_shows := ok_shows (P := P) (base := base) T
  have f_shows_left := ok_shows_left (P := P) (base := base) T
  have f_without := ok_without (P := P) (base := base) T
  obtain ⟨fd, F⟩ := T.d_cut_down
  refine mk_fnX (k := 27) F T.g_cut_down sc_cut_down (fun vs H Q E h => by obtain ⟨_, _, _, _, _, _, _, _, rfl, _⟩ := h; rfl) (fun _ _ _ _ _ _ us hl => match us, hl with | [_, _, _, _], _ => rfl) (fun cdv A outer s H vs Q E hr h => ?_)
  obtain ⟨mil, g, m, gs, us, ws, wv, time, rfl, ha, hb, hq⟩ := h
  have hu := hu_of hr
  refine ⟨(tSeq (tIfS (tNot (tB (tCall (sp_shows K) [] E0 (tCons (tVar 0) (tCons (tVar 1) (tCons (tVar 2) (tCons (tVar 3) tNil))))))) (tRaiseN K E) tNext) (tSeq (tAsg (tLstRg (tRg1 (tCB (Evl.rLenS K) (tCons (tVar 1) tNil)))) (gName 4)) (tSeq (tAsg (tOp rAddI (tCB (Evl.rLenS K) (tCons (tVar 4) tNil)) (tC (.int 1))) (gName 5)) (tSeq (tWhile (tTest (tOp rLtI (tCB (Evl.rLenS K) (tCons (tVar 4) tNil)) (tVar 5))) (tSeq (tAsg (tCB (Evl.rLenS K) (tCons (tVar 4) tNil)) (gName 5)) (tFor (iList K (tCB (Evl.rListS K) (tCons (tVar 4) tNil))) (gName 6) (tIfS (tB (tCall (sp_shows_left K) [] E0 (tCons (tVar 0) (tCons (tVar 1) (tCons (tVar 2) (tCons (tVar 3) (tCons (tCall sp_without [] E0 (tCons (tVar 4) (tCons (tVar 6) tNil))) tNil))))))) (tAsg (tCall sp_without [] E0 (tCons (tVar 4) (tCons (tVar 6) tNil))) (gName 4)) tNext)))) (tRet (tVar 4)))))),
    (pss_cons (ps_if (pt_not (pt_val (f_shows.ex.elim fun _ q => q.elim fun _ q => pe_call q.1 (hr.mono (by omega)) (by rfl) q.2.1 q.2.2.1 q.2.2.2 .nil pass0 (pa_cons (pv 0) (pa_cons (pv 1) (pa_cons (pv 2) (pa_cons (pv 3) pa_nil))))))) (pss_one (ps_raise rfl (takes_of rfl rfl rfl rfl) (pmk_own PySem.F.excBase_ValueError T.x_NoRow.1 T.g_NoRow T.x_NoRow.2.1 (raises_own T.x_NoRow.2.2.1 T.x_NoRow.2.2.2) (by rfl)))) pss_nil)
      (PSs.nox (pss_cons (ps_set (i := 4) sc_cut_down.nd rfl (Or.inl rfl) (pe_listRg rfl (by rfl) T.b_list (prg_1 (by rfl) T.b_range (pe_callB cl_len (by rfl) T.b_len bt_len (pa_cons (pv 1) pa_nil)))))
      (pss_cons (ps_set (i := 5) sc_cut_down.nd rfl (Or.inl rfl) (pe_op op_add (pe_callB cl_len (by rfl) T.b_len bt_len (pa_cons (pv 4) pa_nil)) pe_int))
      (pss_cons (ps_while PassesOwn.never (pt_cmpR op_lt (pe_callB cl_len (by rfl) T.b_len bt_len (pa_cons (pv 4) pa_nil)) (pv 5) (nomark _)) (pss_cons (ps_set (i := 5) sc_cut_down.nd rfl (Or.inl rfl) (pe_callB cl_len (by rfl) T.b_len bt_len (pa_cons (pv 4) pa_nil)))
      (pss_one (ps_for PassesOwn.never rfl (pi_list (pe_callTy cl_list (by rfl) T.b_list bt_list (pa_cons (pv 4) pa_nil))) (pg_name (i := 6) sc_cut_down.nd rfl (Or.inl rfl)) (pss_one (ps_if (pt_val (f_shows_left.ex.elim fun _ q => q.elim fun _ q => pe_call q.1 (hr.mono (by omega)) (by rfl) q.2.1 q.2.2.1 q.2.2.2 .nil pass0 (pa_cons (pv 0) (pa_cons (pv 1) (pa_cons (pv 2) (pa_cons (pv 3) (pa_cons (f_without.ex.elim fun _ q => q.elim fun _ q => pe_call q.1 (hr.mono (by omega)) (by rfl) q.2.1 q.2.2.1 q.2.2.2 .nil pass0 (pa_cons (pv 4) (pa_cons (pv 6) pa_nil))) pa_nil))))))) (pss_one (ps_set (i := 4) sc_cut_down.nd rfl (Or.inl rfl) (f_without.ex.elim fun _ q => q.elim fun _ q => pe_call q.1 (hr.mono (by omega)) (by rfl) q.2.1 q.2.2.1 q.2.2.2 .nil pass0 (pa_cons (pv 4) (pa_cons (pv 6) pa_nil))))) pss_nil))))))
      (pss_one (ps_ret (pv 4)))))))), ?_⟩
  refine g_start (σ' := [some _, some _, some _, some _, none, none, none]) rfl ?_
  refine g_seq (g_ifs (g_not (g_tB (g_call (g_cons (g_v0 (g_cons (g_v1 (g_cons (g_v2 (g_cons (g_v3 (g_nil ?_)))))))))))))
  refine ⟨mil, g, m, gs, us, ws, wv, time, false, rfl, ha, hb, fun H1 e1 => ?_⟩
  refine g_k (g_iteT (g_raiseN ?_))
  exact hq H1 e1
/-! ### the word of a refusal -/
def sp_law_class (K : PySem.W.Frag) : Sp := fun vs H Q _ => ∃ a : Addr, vs = [.ref a] ∧ At H a (ExcO a (.ref (He.ga K "NoRow"))) ∧ Ret (.str "row") H Q
abbrev N_law_class : List Str := ["_law_error", "_law_marks", "_law_words"]
theorem sc_law_class : FnScope N_law_class ["_law_error"] (defScope s_law_class) := ⟨rfl, rfl, rfl, by decide +kernel, rfl, by decide +kernel, by decide +kernel⟩
theorem ok_law_class (T : TX w K mg)  : Fn P w K mg base CX0 (1) "_law_class" ["_law_error"] (sp_law_class K) := by
  obtain ⟨fd, F⟩ := T.d_law_class
  refine mk_fn F T.g_law_class sc_law_class (fun vs H Q E h => by obtain ⟨_, rfl, _⟩ := h; rfl) (fun _ _ _ _ _ _ us hl => match us, hl with | [_], _ => rfl) (fun cdv A outer s H vs Q E hr h => ?_)
  obtain ⟨a, rfl, hE, hq⟩ := h
  have hu := hu_of hr
  refine ⟨(tSeq (tIfS (tTest (tOp rIsN (tVar 0) (tC .non))) (tRet (tC (.str ""))) tNext) (tSeq (tAsg (tLst (tCons (tCB (rIsiE K) (tCons (tVar 0) (tCons (tC (.ref (He.ga K "NoTree"))) tNil))) (tCons (tCB (rIsiE K) (tCons (tVar 0) (tCons (tC (.ref (He.ga K "NoMill"))) tNil))) (tCons (tCB (rIsiE K) (tCons (tVar 0) (tCons (tC (.ref (He.ga K "NoText"))) tNil))) tNil)))) (gName 1)) (tSeq (tAsg (tOp rCat (tVar 1) (tLst (tCons (tCB (rIsiE K) (tCons (tVar 0) (tCons (tC (.ref (He.ga K "NoLetter"))) tNil))) (tCons (tCB (rIsiE K) (tCons (tVar 0) (tCons (tC (.ref (He.ga K "NoOrder"))) tNil))) (tCons (tCB (rIsiE K) (tCons (tVar 0) (tCons (tC (.ref (He.ga K "NoMoment"))) tNil))) tNil))))) (gName 1)) (tSeq (tAsg (tOp rCat (tVar 1) (tLst (tCons (tCB (rIsiE K) (tCons (tVar 0) (tCons (tC (.ref (He.ga K "NoHand"))) tNil))) (tCons (tCB (rIsiE K) (tCons (tVar 0) (tCons (tC (.ref (He.ga K "NotNow"))) tNil))) (tCons (tCB (rIsiE K) (tCons (tVar 0) (tCons (tC (.ref (He.ga K "NoRound"))) tNil))) tNil))))) (gName 1)) (tSeq (tAsg (tOp rCat (tVar 1) (tLst (tCons (tCB (rIsiE K) (tCons (tVar 0) (tCons (tC (.ref (He.ga K "NoPlace"))) tNil))) (tCons (tCB (rIsiE K) (tCons (tVar 0) (tCons (tC (.ref (He.ga K "NoRow"))) tNil))) (tCons (tCB (rIsiE K) (tCons (tVar 0) (tCons (tC (.ref (He.ga K "TooMany"))) tNil))) tNil))))) (gName 1)) (tSeq (tIfS (tOr (tTest (tOp rNe (tBM K "list" (rCountB K) (tVar 1) (tCons (tC (.bl true)) tNil)) (tC (.int 1)))) (tOr (tNot (tB (tCB (rIsiE K) (tCons (tVar 0) (tCons (tC (.ref (He.ga K "MillError"))) tNil))))) (tNot (tB (tCB (rIsiE K) (tCons (tVar 0) (tCons (tC (.ty "ValueError")) tNil))))))) (tRet (tC (.str "other"))) tNext) (tSeq (tAsg (tLst (tCons (tC (.str "tree")) (tCons (tC (.str "mill")) (tCons (tC (.str "text")) (tCons (tC (.str "letter")) (tCons (tC (.str "order")) (tCons (tC (.str "moment")) (tCons (tC (.str "hand")) (tCons (tC (.str "now")) (tCons (tC (.str "round")) (tCons (tC (.str "place")) (tCons (tC (.str "row")) (tCons (tC (.str "many")) tNil))))))))))))) (gName 2)) (tRet (tOp (rIxL K) (tVar 2) (tBM K "list" (rIndex K) (tVar 1) (tCons (tC (.bl true)) tNil))))))))))),
      (pss_cons (ps_if (pt_cmpR op_isN1 (pv 0) pe_non (nomark _)) (pss_one (ps_ret pe_str)) pss_nil)
      (pss_cons (ps_set (i := 1) sc_law_class.nd rfl (Or.inl rfl) (pe_lst (pa_cons (pe_callB call_isiE (by rfl) T.b_isinstance bt_isinstance (pa_cons (pv 0) (pa_cons (pe_gref (by rfl) T.g_NoTree) pa_nil))) (pa_cons (pe_callB call_isiE (by rfl) T.b_isinstance bt_isinstance (pa_cons (pv 0) (pa_cons (pe_gref (by rfl) T.g_NoMill) pa_nil))) (pa_cons (pe_callB call_isiE (by rfl) T.b_isinstance bt_isinstance (pa_cons (pv 0) (pa_cons (pe_gref (by rfl) T.g_NoText) pa_nil))) pa_nil)))))
      (pss_cons (ps_set (i := 1) sc_law_class.nd rfl (Or.inl rfl) (pe_op op_cat (pv 1) (pe_lst (pa_cons (pe_callB call_isiE (by rfl) T.b_isinstance bt_isinstance (pa_cons (pv 0) (pa_cons (pe_gref (by rfl) T.g_NoLetter) pa_nil))) (pa_cons (pe_callB call_isiE (by rfl) T.b_isinstance bt_isinstance (pa_cons (pv 0) (pa_cons (pe_gref (by rfl) T.g_NoOrder) pa_nil))) (pa_cons (pe_callB call_isiE (by rfl) T.b_isinstance bt_isinstance (pa_cons (pv 0) (pa_cons (pe_gref (by rfl) T.g_NoMoment) pa_nil))) pa_nil))))))
      (pss_cons (ps_set (i := 1) sc_law_class.nd rfl (Or.inl rfl) (pe_op op_cat (pv 1) (pe_lst (pa_cons (pe_callB call_isiE (by rfl) T.b_isinstance bt_isinstance (pa_cons (pv 0) (pa_cons (pe_gref (by rfl) T.g_NoHand) pa_nil))) (pa_cons (pe_callB call_isiE (by rfl) T.b_isinstance bt_isinstance (pa_cons (pv 0) (pa_cons (pe_gref (by rfl) T.g_NotNow) pa_nil))) (pa_cons (pe_callB call_isiE (by rfl) T.b_isinstance bt_isinstance (pa_cons (pv 0) (pa_cons (pe_gref (by rfl) T.g_NoRound) pa_nil))) pa_nil))))))
      (pss_cons (ps_set (i := 1) sc_law_class.nd rfl (Or.inl rfl) (pe_op op_cat (pv 1) (pe_lst (pa_cons (pe_callB call_isiE (by rfl) T.b_isinstance bt_isinstance (pa_cons (pv 0) (pa_cons (pe_gref (by rfl) T.g_NoPlace) pa_nil))) (pa_cons (pe_callB call_isiE (by rfl) T.b_isinstance bt_isinstance (pa_cons (pv 0) (pa_cons (pe_gref (by rfl) T.g_NoRow) pa_nil))) (pa_cons (pe_callB call_isiE (by rfl) T.b_isinstance bt_isinstance (pa_cons (pv 0) (pa_cons (pe_gref (by rfl) T.g_TooMany) pa_nil))) pa_nil))))))
      (pss_cons (ps_if (PW.pt (pw_or (pt_cmpR op_ne (pe_bm PySem.F.plainAttrs_list PySem.F.slot_list_count PySem.F.type_list_count (mt_countB hr.units) (pv 1) (pa_cons pe_bl pa_nil)) pe_int (nomark _)) (pw_or (pt_not (pt_val (pe_callB call_isiE (by rfl) T.b_isinstance bt_isinstance (pa_cons (pv 0) (pa_cons (pe_gref (by rfl) T.g_MillError) pa_nil))))) (pw_or1 (pt_not (pt_val (pe_callB call_isiE (by rfl) T.b_isinstance bt_isinstance (pa_cons (pv 0) (pa_cons (pe_bltn (v := .ty "ValueError") (by rfl) T.b_ValueError bt_ValueError rfl) pa_nil))))))))) (pss_one (ps_ret pe_str)) pss_nil)
      (pss_cons (ps_set (i := 2) sc_law_class.nd rfl (Or.inl rfl) (pe_lst (pa_cons pe_str (pa_cons pe_str (pa_cons pe_str (pa_cons pe_str (pa_cons pe_str (pa_cons pe_str (pa_cons pe_str (pa_cons pe_str (pa_cons pe_str (pa_cons pe_str (pa_cons pe_str (pa_cons pe_str pa_nil))))))))))))))
      (pss_one (ps_ret (pe_ix ix_list (pv 2) (pe_bm PySem.F.plainAttrs_list PySem.F.slot_list_index PySem.F.type_list_index mt_index (pv 1) (pa_cons pe_bl pa_nil)) (fun _ _ => rfl))))))))))), ?_⟩
  refine g_start (σ' := [some _, none, none]) rfl ?_
  refine g_seq (g_ifs (g_tst (g_op (g_v0 (g_c (g_isN (g_k (g_ifD0 (by simp) (g_next (g_seq (g_asg (g_lst (g_cons (g_cb (g_cons (g_v0 (g_cons (g_c (g_nil (g_isiE (by walk_at "hx") (TX.excC T) (.own _) T.kx_NoTree (g_cons (g_cb (g_cons (g_v0 (g_cons (g_c (g_nil (g_isiE (by walk_at "hx") (TX.excC T) (.own _) T.kx_NoMill (g_cons (g_cb (g_cons (g_v0 (g_cons (g_c (g_nil (g_isiE (by walk_at "hx") (TX.excC T) (.own _) T.kx_NoText (g_nil ?_)))))))))))))))))))))))))))))))))))))
  refine g_lstN (by simp) (fun p1 H1 n1 e1 h1 => ?_)
  refine g_n1 (g_seq (g_asg (g_op (g_v1 (g_lst (g_cons (g_cb (g_cons (g_v0 (g_cons (g_c (g_nil (g_isiE (by walk_at "hx") (TX.excC T) (.own _) T.kx_NoLetter (g_cons (g_cb (g_cons (g_v0 (g_cons (g_c (g_nil (g_isiE (by walk_at "hx") (TX.excC T) (.own _) T.kx_NoOrder (g_cons (g_cb (g_cons (g_v0 (g_cons (g_c (g_nil (g_isiE (by walk_at "hx") (TX.excC T) (.own _) T.kx_NoMoment (g_nil ?_))))))))))))))))))))))))))))))
  refine g_lstN (by simp) (fun p2 H2 n2 e2 h2 => ?_)
  refine g_cat (h1.ex e2) h2 (by simp) (fun p3 H3 n3 e3 h3 => ?_)
  refine g_n1 (g_seq (g_asg (g_op (g_v1 (g_lst (g_cons (g_cb (g_cons (g_v0 (g_cons (g_c (g_nil (g_isiE (by walk_at "hx") (TX.excC T) (.own _) T.kx_NoHand (g_cons (g_cb (g_cons (g_v0 (g_cons (g_c (g_nil (g_isiE (by walk_at "hx") (TX.excC T) (.own _) T.kx_NotNow (g_cons (g_cb (g_cons (g_v0 (g_cons (g_c (g_nil (g_isiE (by walk_at "hx") (TX.excC T) (.own _) T.kx_NoRound (g_nil ?_))))))))))))))))))))))))))))))
  refine g_lstN (by simp) (fun p4 H4 n4 e4 h4 => ?_)
  refine g_cat (h3.ex e4) h4 (by simp) (fun p5 H5 n5 e5 h5 => ?_)
  refine g_n1 (g_seq (g_asg (g_op (g_v1 (g_lst (g_cons (g_cb (g_cons (g_v0 (g_cons (g_c (g_nil (g_isiE (by walk_at "hx") (TX.excC T) (.own _) T.kx_NoPlace (g_cons (g_cb (g_cons (g_v0 (g_cons (g_c (g_nil (g_isiE (by walk_at "hx") (TX.excC T) (.own _) T.kx_NoRow (g_cons (g_cb (g_cons (g_v0 (g_cons (g_c (g_nil (g_isiE (by walk_at "hx") (TX.excC T) (.own _) T.kx_TooMany (g_nil ?_))))))))))))))))))))))))))))))
  refine g_lstN (by simp) (fun p6 H6 n6 e6 h6 => ?_)
  refine g_cat (h5.ex e6) h6 (by simp) (fun p7 H7 n7 e7 h7 => ?_)
  refine g_n1 (g_seq (g_ifs (g_or (g_tst (g_op (g_bm (g_v1 (g_tyL (by walk_at "hx") (g_cons (g_c (g_nil ?_)))))))))))
  refine g_countB (bs := [false, false, false, false, false, false, false, false, false, false, true, false]) h7 ?_
  refine g_c (g_neI (g_k (g_ifN0 (by decide) (g_or (g_not (g_tB (g_cb (g_cons (g_v0 (g_cons (g_c (g_nil (g_isiE (by walk_at "hx") (TX.excC T) (.own _) T.kx_MillError (g_k (g_iteF (g_not (g_tB (g_cb (g_cons (g_v0 (g_cons (g_c (g_nil (g_isiE (by walk_at "hx") (TX.excC T) (.ty _) T.kx_ValueError (g_k (g_iteF (g_next (g_seq (g_asg (g_lst (g_cons (g_c (g_cons (g_c (g_cons (g_c (g_cons (g_c (g_cons (g_c (g_cons (g_c (g_cons (g_c (g_cons (g_c (g_cons (g_c (g_cons (g_c (g_cons (g_c (g_cons (g_c (g_nil ?_)))))))))))))))))))))))))))))))))))))))))))))))))))))))
  refine g_lstN (by simp) (fun p8 H8 n8 e8 h8 => ?_)
  have h78 := h7.ex e8
  refine g_n2 (g_ret (g_op (g_v2 (g_bm (g_v1 (g_tyL (by walk_at "hx") (g_cons (g_c (g_nil ?_)))))))))
  refine ⟨p7, _, .bl true, 10, .bl true, rfl, rfl, h78.sqL, rfl, rfl, rfl, rfl, fun i z hi hz => ?_, ?_⟩
  · have c : i = 0 ∨ i = 1 ∨ i = 2 ∨ i = 3 ∨ i = 4 ∨ i = 5 ∨ i = 6 ∨ i = 7 ∨ i = 8 ∨ i = 9 := by omega
    rcases c with rfl | rfl | rfl | rfl | rfl | rfl | rfl | rfl | rfl | rfl <;> (cases hz; rfl)
  · -- ix _law_words[_law_marks.index(True)]
    refine g_ixL (v := .str "row") h8 rfl ?_
    exact hq _ (e1.trans (e2.trans (e3.trans (e4.trans (e5.trans (e6.trans (e7.trans e8)))))))
end
end PM
/-! part F34 -/
namespace PM
open PySem PySem.Spec PyProof.Rows L2 PMH
open Evl (Ex)

local macro_rules | `(tactic| walk_at "ex") => `(tactic| first
  | with_reducible assumption
  | with_reducible exact Evl.Ex.refl _
  | (refine Evl.Ex.trans ?_ (by with_reducible assumption); walk_at "ex"))
local macro_rules | `(tactic| walk_at "hx") => `(tactic| first
  | with_reducible assumption
  | (refine At.ex (by with_reducible assumption) ?_; walk_at "ex")
  | (refine Fz.tx (by with_reducible assumption) ?_; walk_at "tx")
  | (refine TrAt.ex (by with_reducible assumption) ?_; walk_at "ex")
  | (refine MlAt.tx ?_ (by with_reducible assumption); walk_at "tx")
  | (refine PlAt.tx ?_ (by with_reducible assumption); walk_at "tx")
  | (refine LtAt.tx ?_ (by with_reducible assumption); walk_at "tx")
  | (refine GvAt.tx ?_ (by with_reducible assumption); walk_at "tx")
  | (refine WsAt.tx ?_ (by with_reducible assumption); walk_at "tx")
  | (refine RwAt.tx ?_ _ _ (by with_reducible assumption); walk_at "tx")
  | (refine RwsAt.tx ?_ _ _ (by with_reducible assumption); walk_at "tx")
  | (refine RuAt.tx ?_ (by with_reducible assumption); walk_at "tx")
  | (refine PrAt.tx ?_ (by with_reducible assumption); walk_at "tx"))
local macro_rules | `(tactic| walk_at "num") => `(tactic| first
  | with_reducible assumption
  | decide
  | exact Or.inl ⟨by omega, by omega⟩
  | exact Or.inr ⟨by omega, by omega⟩
  | (refine ⟨?_, ?_⟩ <;> omega)
  | (show (0 : Int) < _; omega))
local macro_rules | `(tactic| walk_at "tx") => `(tactic| first
  | with_reducible assumption
  | (refine Tx.ex ?_; walk_at "ex"))
local macro_rules | `(tactic| walk_at "sz") => `(tactic| first
  | with_reducible assumption
  | omega
  | (refine Evl.sz_of ?_; omega)
  | (refine Evl.sz_lt ?_; omega))
local macro_rules | `(tactic| walk_at "fl") => `(tactic| first
  | rfl
  | decide +kernel)

abbrev N_law_refused : List Str := ["_law_work", "_law_error", "e"]
theorem sc_law_refused : FnScope N_law_refused ["_law_work"] (defScope s_law_refused) := ⟨rfl, rfl, rfl, by decide +kernel, rfl, by decide +kernel, by decide +kernel⟩
/-- what the def that catches makes of the work's reading -/
def TRef (K : PySem.W.Frag) : (XK → Hp → VK → Prop) → Hp → VK → Prop := fun tl H Q => ∀ Q' : VK, tl (fun cls d H' => cls = .ref (He.ga K "NoRow") ∧ d = none ∧ Ret (.str "row") H' Q) H Q'
theorem refused_gives {X : Cx} {g : Addr} {cdv : Value} {q : Str} (T : TX X.w X.K X.mg) (f_law_class : Fn X.prog X.w X.K X.mg X.base CX0 1 "_law_class" ["_law_error"] (sp_law_class X.K)) (hr : Room 2 X.A) :
    LamX.GivesTo X N_law_refused "_law_refused" (defScope s_law_refused) g cdv (defBody s_law_refused) "_law_work" q (TRef X.K) := by
  intro f c' s H Q tl act hc h
  refine ⟨_, pss_cons (ps_set (i := 1) sc_law_refused.nd rfl (Or.inl rfl) pe_non)
    (pss_cons (ps_catch (i := 2) (j := 1) (c := .ref (He.ga X.K "MillError")) (tb := fun W D σ H => ∃ Ech : XK, (∀ cls d σ' H', Ech cls d H' → W cls d σ' H') ∧ σ[0]? = some (some (.ref f)) ∧ H c' = some (LamX.CodeO c' q) ∧ ∀ Q', tl Ech H Q')
      rfl rfl rfl sc_law_refused.nd rfl rfl rfl rfl (by rfl) T.g_MillError (by decide) (by decide) (by decide) (fun W pn xe tk => ⟨fun pins s2 σ H2 D I hz => ?_⟩))
    (pss_one (ps_ret (f_law_class.ex.elim fun _ q => q.elim fun _ q => pe_call q.1 (hr.deeper _) (by rfl) q.2.1 q.2.2.1 q.2.2.2 .nil pass0 (pa_cons (pv 1) pa_nil))))), ?_⟩
  · obtain ⟨Ech, hW, h1, h2, h3⟩ := hz
    exact (pss_one (ps_expr (act W pn xe Ech _ _ tk hW))).run pins s2 σ H2 D I ⟨h1, h2, h3 _⟩
  · refine g_start (σ' := [some _, none, none]) rfl ?_
    refine g_seq (g_asg (g_c (g_n1 (g_seq ?_))))
    refine ⟨_, ?_, rfl, hc, fun Q' => h Q'⟩
    rintro cls d σ' H' ⟨rfl, rfl, hq⟩
    refine ⟨T.xm_MillError, rfl, fun a hl na => ?_⟩
    match σ', hl with
    | [x0, x1, x2], _ => exact g_ret (g_call (g_cons (g_v1 (g_nil ⟨a, rfl, upd_same, fun H2 e2 => hq H2 ((ex_new na).trans e2)⟩))))
end PM
/-! part PQZ -/
namespace PM
open PySem PySem.Spec PyProof.Rows L2 PMH
open Evl (Ex)
/-! ### a comprehension over zip of two lists -/
section
variable {K : PySem.W.Frag} {g : TG} {tt : TT} {te : TE} {vs : List Nat} {σ : L2.St} {H : Hp} {Q : VK} {a b : Addr} {xs ys : List V} {ta : TA}
def LcZ (K : PySem.W.Frag) (g : TG) (tt : TT) (te : TE) (vs : List Nat) (σ : L2.St) (Q : VK) : List V → Hp → Prop := fun us H1 => ∃ a b xs ys, us = [.ref a, .ref b] ∧ SqL K H1 a xs ∧ SqL K H1 b ys ∧ LcJ (Itz K a b) g tt te vs σ Q H1
theorem g_lcZ (h : ta σ H (LcZ K g tt te vs σ Q)) : tLc (iZip K ta) g tt te vs σ H Q := h
theorem lc_Z (h1 : At H a (.lst xs)) (h2 : At H b (.lst ys)) (hn : ys.length ≤ xs.length) (small : ys.length ≤ 1000) (f : Nat → V)
    (turn : ∀ (i : Nat) (x y : V) (p : Addr) (H1 H2 : Hp), xs[i]? = some x → ys[i]? = some y → Ex H H1 → Ex H1 H2 → At H2 p (.tup [x, y]) → ∀ (Y : VK) (N : Hp → Prop), (∀ H4, Ex H2 H4 → Y (f i) H4) → LcTurn g tt te vs σ (.ref p) H2 Y N)
    (fin : ∀ D H1, H D = none → Ex H H1 → At H1 D (.lst ((List.range ys.length).map f)) → Q (.ref D) H1) : LcZ K g tt te vs σ Q [.ref a, .ref b] H := by
  refine ⟨a, b, xs, ys, rfl, h1.sqL, h2.sqL, fun D hD => ⟨fun i m H' => m = ys.length - i ∧ i ≤ ys.length ∧ Ex H H' ∧ At H' D (.lst ((List.range i).map f)), ⟨_, rfl, Nat.zero_le _, ex_new hD, at_new⟩, fun i m H' w => ?_⟩⟩
  obtain ⟨rfl, hi, e, hA⟩ := w
  have q1 : SqL K H' a xs := (h1.ex e).sqL
  have q2 : SqL K H' b ys := (h2.ex e).sqL
  by_cases hlt : i < ys.length
  · have hx : xs[i]? = some xs[i] := List.getElem?_eq_getElem (by omega)
    have hy : ys[i]? = some ys[i] := List.getElem?_eq_getElem hlt
    refine .inr ⟨⟨xs, ys, _, _, q1, q2, hx, hy⟩, fun H4 => Ex H H4 ∧ At H4 D (.lst ((List.range (i + 1)).map f)), fun H4 p => ⟨ys.length - (i + 1), by omega, rfl, hlt, p⟩, fun v H2 yl => ?_⟩
    obtain ⟨p, x', y', rfl, hp, rfl, f1, f2⟩ := yl
    have e2 : Ex H' (upd H' p (.tup [x', y'])) := ex_new hp
    refine turn i x' y' p H' _ (f1 xs q1) (f2 ys q2) e e2 at_new _ _ fun H4 e4 => ?_
    have hA4 := (hA.ex e2).ex e4
    refine ⟨_, hA4, Evl.sz_lt (by rw [List.length_map, List.length_range]; omega), ex_upd ((e.trans e2).trans e4) hD, ?_⟩
    rw [List.range_succ, List.map_append]
    exact at_new
  · obtain rfl : i = ys.length := by omega
    exact .inl ⟨⟨xs, ys, q1, q2, .inr (Nat.le_refl _)⟩, fin D H' hD e hA⟩
end
end PM
/-! part F19 -/
namespace PM
open PySem PySem.Spec PyProof.Rows L2 PMH
open Evl (Ex)

local macro_rules | `(tactic| walk_at "ex") => `(tactic| first
  | with_reducible assumption
  | with_reducible exact Evl.Ex.refl _
  | (refine Evl.Ex.trans ?_ (by with_reducible assumption); walk_at "ex"))
local macro_rules | `(tactic| walk_at "hx") => `(tactic| first
  | with_reducible assumption
  | (refine At.ex (by with_reducible assumption) ?_; walk_at "ex")
  | (refine Fz.tx (by with_reducible assumption) ?_; walk_at "tx")
  | (refine TrAt.ex (by with_reducible assumption) ?_; walk_at "ex")
  | (refine MlAt.tx ?_ (by with_reducible assumption); walk_at "tx")
  | (refine PlAt.tx ?_ (by with_reducible assumption); walk_at "tx")
  | (refine LtAt.tx ?_ (by with_reducible assumption); walk_at "tx")
  | (refine GvAt.tx ?_ (by with_reducible assumption); walk_at "tx")
  | (refine WsAt.tx ?_ (by with_reducible assumption); walk_at "tx")
  | (refine RwAt.tx ?_ _ _ (by with_reducible assumption); walk_at "tx")
  | (refine RwsAt.tx ?_ _ _ (by with_reducible assumption); walk_at "tx")
  | (refine RuAt.tx ?_ (by with_reducible assumption); walk_at "tx")
  | (refine PrAt.tx ?_ (by with_reducible assumption); walk_at "tx"))
local macro_rules | `(tactic| walk_at "num") => `(tactic| first
  | with_reducible assumption
  | decide
  | exact Or.inl ⟨by omega, by omega⟩
  | exact Or.inr ⟨by omega, by omega⟩
  | (refine ⟨?_, ?_⟩ <;> omega)
  | (show (0 : Int) < _; omega))
local macro_rules | `(tactic| walk_at "tx") => `(tactic| first
  | with_reducible assumption
  | (refine Tx.ex ?_; walk_at "ex"))
local macro_rules | `(tactic| walk_at "sz") => `(tactic| first
  | with_reducible assumption
  | omega
  | (refine Evl.sz_of ?_; omega)
  | (refine Evl.sz_lt ?_; omega))
local macro_rules | `(tactic| walk_at "fl") => `(tactic| first
  | rfl
  | decide +kernel)

local macro_rules | `(tactic| walk_at "mi") => `(tactic| first
  | with_reducible assumption
  | (refine MiAt.ex (by with_reducible assumption) ?_; walk_at "ex"))
theorem nV_at {ns : List Nat} {i : Nat} {v : V} (h : (nV ns)[i]? = some v) : ∃ n : Nat, ns[i]? = some n ∧ v = .int (n : Int) := by
  rw [List.getElem?_map] at h
  obtain ⟨n, h1, h2⟩ := Option.map_eq_some_iff.mp h
  exact ⟨n, h1, h2.symm⟩
/-- whether all of these numbers are needed -/
def fewOf (ns : List Nat) (n : Nat) : List Nat := ns.filter fun x => !decide (x = n)
def needOf (sh : List Nat → Option Bool) (ns : List Nat) : Option Bool :=
  if ((sh ns).isNone || ns.any fun n => (sh (fewOf ns n)).isNone) = true then none else some ((sh ns == some true) && ns.all fun n => sh (fewOf ns n) == some false)
theorem need_some {sh : List Nat → Option Bool} {ns : List Nat} {due : Bool} (h : needOf sh ns = some due) : (∃ b, sh ns = some b) ∧ (∀ n ∈ ns, ∃ b, sh (fewOf ns n) = some b) ∧ due = ((sh ns == some true) && ns.all fun n => sh (fewOf ns n) == some false) := by
  unfold needOf at h
  split at h
  · cases h
  · rename_i hc
    have hc := Bool.eq_false_iff.mpr hc
    rw [Bool.or_eq_false_iff] at hc
    refine ⟨Option.isSome_iff_exists.mp (by cases q : sh ns <;> simp_all), fun n hn => ?_, (Option.some.inj h).symm⟩
    have := List.any_eq_false.mp hc.2 n hn
    exact Option.isSome_iff_exists.mp (by cases q : sh (fewOf ns n) <;> simp_all)
section
variable {P : Program} {w : World} {K : PySem.W.Frag} {mg : Str → Option Value} {base : Heap}
def sp_are_numbers : Sp := fun vs H Q _ => ∃ (g na : Addr) (us : List V) (ns : List Nat), vs = [.ref g, .ref na] ∧ SqAt us g H ∧ At H na (.lst (nV ns)) ∧ (∀ n ∈ ns, n < us.length) ∧ ns.length ≤ 8 ∧ ns.Pairwise (· < ·) ∧ Ret (.bl true) H Q
abbrev N_are_numbers : List Str := ["given", "thing", "one", "other"]
theorem sc_are_numbers : FnScope N_are_numbers ["given", "thing"] (defScope s_are_numbers) := ⟨rfl, rfl, rfl, by decide +kernel, rfl, by decide +kernel, by decide +kernel⟩
theorem ok_are_numbers (T : TX w K mg)  : Fn P w K mg base CX0 (2) "are_numbers" ["given", "thing"] (sp_are_numbers) := by
  have f_is_whole_plain := ok_is_whole_plain (P := P) (base := base) T
  obtain ⟨fd, F⟩ := T.d_are_numbers
  refine mk_fn F T.g_are_numbers sc_are_numbers (fun vs H Q E h => by obtain ⟨_, _, _, _, rfl, _⟩ := h; rfl) (fun _ _ _ _ _ _ us hl => match us, hl with | [_, _], _ => rfl) (fun cdv A outer s H vs Q E hr h => ?_)
  obtain ⟨g, na, us, ns, rfl, hg, hna, hlt, hl, hpw, hq⟩ := h
  have hu := hu_of hr
  refine ⟨(tSeq (tIfS (tNot (tB (tCB (rIsiT K) (tCons (tVar 1) (tCons (tTup (tCons (tC (.ty "list")) (tCons (tC (.ty "tuple")) tNil))) tNil))))) (tRet (tC (.bl false))) tNext) (tSeq (tIfS (tNot (tB (tCB (rAll K) (tCons (tLc (iList K (tVar 1)) (gName 2) tYes (tAndV (tCall sp_is_whole_plain [] E0 (tCons (tVar 2) tNil)) (tChain rLeI rLtI (tC (.int 0)) (tVar 2) (tCB (Evl.rLenS K) (tCons (tVar 0) tNil)))) [2]) tNil)))) (tRet (tC (.bl false))) tNext) (tRet (tCB (rAll K) (tCons (tLc (iZip K (tCons (tVar 1) (tCons (tSl (rSlL K) (tVar 1) (tPart (tC (.int 1))) tNoPart) tNil))) (gTup K 2 (gCons (gName 2) (gCons (gName 3) gNil))) tYes (tOp rLtI (tVar 2) (tVar 3)) [2, 3]) tNil))))),
      (pss_cons (ps_if (pt_not (pt_val (pe_callB call_isiT (by rfl) T.b_isinstance bt_isinstance (pa_cons (pv 1) (pa_cons (pe_tup (pa_cons (pe_bltn (v := .ty "list") (by rfl) T.b_list bt_list rfl) (pa_cons (pe_bltn (v := .ty "tuple") (by rfl) T.b_tuple bt_tuple rfl) pa_nil))) pa_nil))))) (pss_one (ps_ret pe_bl)) pss_nil)
      (pss_cons (ps_if (pt_not (pt_val (pe_callB (cr_all rfl) (by rfl) T.b_all bt_all (pa_cons (pe_lc (own := [("one", 2)]) (wi := (iList K (tVar 1))) (g := (gName 2)) (tt := tYes) (te := (tAndV (tCall sp_is_whole_plain [] E0 (tCons (tVar 2) tNil)) (tChain rLeI rLtI (tC (.int 0)) (tVar 2) (tCB (Evl.rLenS K) (tCons (tVar 0) tNil))))) rfl sc_are_numbers.nd (pi_list (pv 1)) (blkOk_by (N := N_are_numbers) (sc := defScope s_are_numbers) (by decide +kernel)) (fun _ _ _ _ _ => (pg_name (i := 2) sc_are_numbers.nd rfl (Or.inl rfl))) (fun _ _ _ _ _ => pts_nil) (fun _ _ _ _ _ => (pe_and (f_is_whole_plain.ex.elim fun _ q => q.elim fun _ q => pe_call q.1 (hr.mono (by omega)) (by rfl) q.2.1 q.2.2.1 q.2.2.2 .nil pass0 (pa_cons (pv 2) pa_nil)) (pe_one (pe_chain op_le op_lt pe_int (pv 2) (pe_callB cl_len (by rfl) T.b_len bt_len (pa_cons (pv 0) pa_nil))))))) pa_nil)))) (pss_one (ps_ret pe_bl)) pss_nil)
      (pss_one (ps_ret (pe_callB (cr_all rfl) (by rfl) T.b_all bt_all (pa_cons (pe_lc (own := [("one", 2), ("other", 3)]) (wi := (iZip K (tCons (tVar 1) (tCons (tSl (rSlL K) (tVar 1) (tPart (tC (.int 1))) tNoPart) tNil)))) (g := (gTup K 2 (gCons (gName 2) (gCons (gName 3) gNil)))) (tt := tYes) (te := (tOp rLtI (tVar 2) (tVar 3))) rfl sc_are_numbers.nd (pi_zip (by rfl) T.b_zip (pa_cons (pv 1) (pa_cons (pe_slice sl_list (pv 1) (po_some pe_int) po_none) pa_nil))) (blkOk_by (N := N_are_numbers) (sc := defScope s_are_numbers) (by decide +kernel)) (fun _ _ _ _ _ => (pg_tup rfl (pgs_cons (pg_name (i := 2) sc_are_numbers.nd rfl (Or.inl rfl)) (pgs_cons (pg_name (i := 3) sc_are_numbers.nd rfl (Or.inl rfl)) pgs_nil)))) (fun _ _ _ _ _ => pts_nil) (fun _ _ _ _ _ => (pe_cmpR op_lt (pv 2) (pv 3) (nomark _)))) pa_nil)))))), ?_⟩
  refine g_start (σ' := [some _, some _, none, none]) rfl ?_
  refine g_seq (g_ifs (g_not (g_tB (g_cb (g_cons (g_v1 (g_cons (g_tup (g_cons (g_c (g_cons (g_c (g_nil ?_)))))))))))))
  refine g_tupN (by simp) (fun tp H1 n1 e1 htp => ?_)
  refine g_nil ?_
  refine g_isiLT (.inl (hna.ex e1)) htp ?_
  refine g_k (g_iteF (g_next (g_seq (g_ifs (g_not (g_tB (g_cb (g_cons (g_lcL (g_v1 ?_))))))))))
  refine lc_mapL (R := fun (n : Nat) u _ => u = V.int (n : Int)) (ds := ns) (h := fun _ => .bl true) (hna.ex e1) (al_eq ns) (by omega) (fun _ _ _ _ h => h) (fun n hn u H2 e2 hR Y N hY => ?_) (fun D H2 n2 e2 hD => ?_)
  · subst hR
    refine g_n2 (And.intro rfl (g_yes (g_iteT (g_andV (g_call (g_cons (g_v2 (g_nil ?_))))))))
    refine ⟨(n : Int), rfl, ?_⟩
    refine g_k (g_iteT (g_chain (g_c (g_v2 (g_I0 (g_k (g_ifD1 (by omega) (g_cb (g_cons (g_v0 (g_nil ?_)))))))))))
    refine g_lnX (hg.ex (e1.trans e2)) ?_
    refine g_I0 ?_
    have e : decide ((n : Int) < (us.length : Nat)) = true := decide_eq_true (by have := hlt n hn; omega)
    rw [e]
    exact hY _ (Evl.Ex.refl _)
  · have e12 := e1.trans e2
    refine g_nil ?_
    refine g_allT hD (all_yes _) ?_
    refine g_k (g_iteF (g_next (g_ret (g_cb (g_cons (g_lcZ (g_cons (g_v1 (g_cons (g_sl (g_v1 (g_po (g_c (g_poI (g_po0 ?_)))))))))))))))
    refine g_slL (hna.ex e12) (fun s H3 n3 e3 hs => ?_)
    rw [show (1 : Int) = ((1 : Nat) : Int) by rfl, cut_hi, ← List.map_drop] at hs
    refine g_nil ?_
    refine lc_Z (hna.ex (e12.trans e3)) hs (by simp) (by simp; omega) (fun _ => .bl true) (fun i x y p H4 H5 hx hy e4 e5 hp Y N hY => ?_) (fun D2 H4 n4 e4 hD2 => ?_)
    · obtain ⟨nx, hnx, rfl⟩ := nV_at hx
      obtain ⟨ny, hny, rfl⟩ := nV_at hy
      refine g_gtup (by walk_at "hx") rfl (g_gcons (g_n2 (g_gcons (g_n3 (g_gnil (And.intro rfl (g_yes (g_iteT (g_op (g_v2 (g_v3 (g_I0 ?_))))))))))))
      have lt : nx < ny := by
        rw [List.getElem?_drop] at hny
        obtain ⟨h1, h2⟩ := List.getElem?_eq_some_iff.mp hnx
        obtain ⟨h3, h4⟩ := List.getElem?_eq_some_iff.mp hny
        rw [← h2, ← h4]
        exact List.pairwise_iff_getElem.mp hpw i (1 + i) h1 h3 (by omega)
      have e : decide ((nx : Int) < (ny : Int)) = true := decide_eq_true (by omega)
      rw [e]
      exact hY _ (Evl.Ex.refl _)
    ·
      refine g_nil ?_
      refine g_allT hD2 (all_yes _) ?_
      exact hq _ (e12.trans (e3.trans e4))
def sp_cut_good (K : PySem.W.Frag) : Sp := fun vs H Q _ => ∃ (mil g na : Addr) (m : List Pl) (gs : List Gv) (us : List V) (ws : Nm × Tr) (wv : V) (time : Int) (ns : List Nat) (due : Bool), vs = [.ref mil, .ref g, .int time, wv, .ref na] ∧ Asked K mil g m gs us ws wv H ∧ At H na (.lst (nV ns)) ∧ (∀ n ∈ ns, n < gs.length) ∧ ns.length ≤ 8 ∧ ns.Pairwise (· < ·) ∧
  needOf (shL m gs time ws) ns = some due ∧ Ret (.bl due) H Q
abbrev N_cut_good : List Str := ["mill", "given", "time", "wish", "numbers", "number"]
theorem sc_cut_good : FnScope N_cut_good ["mill", "given", "time", "wish", "numbers"] (defScope s_cut_good) := ⟨rfl, rfl, rfl, by decide +kernel, rfl, by decide +kernel, by decide +kernel⟩
theorem ok_cut_good (T : TX w K mg)  : Fn P w K mg base CX0 (27) "cut_good" ["mill", "given", "time", "wish", "numbers"] (sp_cut_good K) := by
  have f_need_asked := ok_need_asked (P := P) (base := base) T
  have f_are_numbers := ok_are_numbers (P := P) (base := base) T
  have f_shows_left := ok_shows_left (P := P) (base := base) T
  have f_without := ok_without (P := P) (base := base) T
  obtain ⟨fd, F⟩ := T.d_cut_good
  refine mk_fn F T.g_cut_good sc_cut_good (fun vs H Q E h => by obtain ⟨_, _, _, _, _, _, _, _, _, _, _, rfl, _⟩ := h; rfl) (fun _ _ _ _ _ _ us hl => match us, hl with | [_, _, _, _, _], _ => rfl) (fun cdv A outer s H vs Q E hr h => ?_)
  obtain ⟨mil, g, na, m, gs, us, ws, wv, time, ns, due, rfl, ha, hna, hlt, hl, hpw, hb, hq⟩ := h
  have hu := hu_of hr
  refine ⟨(tSeq (tDrop (tCall (sp_need_asked K) [] E0 (tCons (tVar 0) (tCons (tVar 1) (tCons (tVar 3) tNil))))) (tSeq (tIfS (tOr (tNot (tB (tCall sp_are_numbers [] E0 (tCons (tVar 1) (tCons (tVar 4) tNil))))) (tNot (tB (tCall (sp_shows_left K) [] E0 (tCons (tVar 0) (tCons (tVar 1) (tCons (tVar 2) (tCons (tVar 3) (tCons (tVar 4) tNil))))))))) (tRet (tC (.bl false))) tNext) (tRet (tNotV (tCB (rAny K) (tCons (tLc (iList K (tVar 4)) (gName 5) tYes (tCall (sp_shows_left K) [] E0 (tCons (tVar 0) (tCons (tVar 1) (tCons (tVar 2) (tCons (tVar 3) (tCons (tCall sp_without [] E0 (tCons (tVar 4) (tCons (tVar 5) tNil))) tNil)))))) [5]) tNil)))))),
      (pss_cons (ps_expr (f_need_asked.ex.elim fun _ q => q.elim fun _ q => pe_call q.1 (hr.mono (by omega)) (by rfl) q.2.1 q.2.2.1 q.2.2.2 .nil pass0 (pa_cons (pv 0) (pa_cons (pv 1) (pa_cons (pv 3) pa_nil)))))
      (pss_cons (ps_if (PW.pt (pw_or (pt_not (pt_val (f_are_numbers.ex.elim fun _ q => q.elim fun _ q => pe_call q.1 (hr.mono (by omega)) (by rfl) q.2.1 q.2.2.1 q.2.2.2 .nil pass0 (pa_cons (pv 1) (pa_cons (pv 4) pa_nil))))) (pw_or1 (pt_not (pt_val (f_shows_left.ex.elim fun _ q => q.elim fun _ q => pe_call q.1 (hr.mono (by omega)) (by rfl) q.2.1 q.2.2.1 q.2.2.2 .nil pass0 (pa_cons (pv 0) (pa_cons (pv 1) (pa_cons (pv 2) (pa_cons (pv 3) (pa_cons (pv 4) pa_nil))))))))))) (pss_one (ps_ret pe_bl)) pss_nil)
      (pss_one (ps_ret (pe_not (pe_callB (cr_any rfl) (by rfl) T.b_any bt_any (pa_cons (pe_lc (own := [("number", 5)]) (wi := (iList K (tVar 4))) (g := (gName 5)) (tt := tYes) (te := (tCall (sp_shows_left K) [] E0 (tCons (tVar 0) (tCons (tVar 1) (tCons (tVar 2) (tCons (tVar 3) (tCons (tCall sp_without [] E0 (tCons (tVar 4) (tCons (tVar 5) tNil))) tNil))))))) rfl sc_cut_good.nd (pi_list (pv 4)) (blkOk_by (N := N_cut_good) (sc := defScope s_cut_good) (by decide +kernel)) (fun _ _ _ _ _ => (pg_name (i := 5) sc_cut_good.nd rfl (Or.inl rfl))) (fun _ _ _ _ _ => pts_nil) (fun _ _ _ _ _ => (f_shows_left.ex.elim fun _ q => q.elim fun _ q => pe_call q.1 (hr.mono (by omega)) (by rfl) q.2.1 q.2.2.1 q.2.2.2 .nil pass0 (pa_cons (pv 0) (pa_cons (pv 1) (pa_cons (pv 2) (pa_cons (pv 3) (pa_cons (f_without.ex.elim fun _ q => q.elim fun _ q => pe_call q.1 (hr.mono (by omega)) (by rfl) q.2.1 q.2.2.1 q.2.2.2 .nil pass0 (pa_cons (pv 4) (pa_cons (pv 5) pa_nil))) pa_nil)))))))) pa_nil))))))), ?_⟩
  refine g_start (σ' := [some _, some _, some _, some _, some _, none]) rfl ?_
  obtain ⟨⟨b0, hb0⟩, hfs, hdue⟩ := need_some hb
  refine g_seq (g_drop (g_call (g_cons (g_v0 (g_cons (g_v1 (g_cons (g_v3 (g_nil ?_)))))))))
  refine ⟨mil, g, m, gs, us, wv, ws, rfl, ha.mi, ha.ok, ha.hgs, ha.hws, ha.wok, fun H1 e1 => ?_⟩
  refine g_seq (g_ifs (g_or (g_not (g_tB (g_call (g_cons (g_v1 (g_cons (g_v4 (g_nil ?_))))))))))
  refine ⟨g, na, us, ns, rfl, ha.hgs.sq.ex e1, hna.ex e1, fun n hn => by rw [ha.hgs.al.len]; exact hlt n hn, hl, hpw, fun H2 e2 => ?_⟩
  have e12 := e1.trans e2
  refine g_k (g_iteF (g_not (g_tB (g_call (g_cons (g_v0 (g_cons (g_v1 (g_cons (g_v2 (g_cons (g_v3 (g_cons (g_v4 (g_nil ?_)))))))))))))))
  refine ⟨mil, g, na, m, gs, us, ws, wv, time, ns, b0, rfl, ha.ex e12, hna.ex e12, hlt, hl, hb0, fun H3 e3 => ?_⟩
  have e13 := e12.trans e3
  cases b0 with
  | false =>
    refine g_k (g_iteT (g_ret (g_c ?_)))
    have hd : due = false := by rw [hdue, hb0]; rfl
    subst hd
    exact hq _ e13
  | true =>
    refine g_k (g_iteF (g_next (g_ret (g_notV (g_cb (g_cons (g_lcL (g_v4 ?_))))))))
    refine lc_mapL (R := fun (n : Nat) u _ => u = V.int (n : Int)) (ds := ns) (h := fun n => .bl (!(shL m gs time ws (fewOf ns n) == some false))) (hna.ex e13) (al_eq ns) (by omega) (fun _ _ _ _ h => h) (fun n hn u H4 e4 hR Y N hY => ?_) (fun D H4 n4 e4 hD => ?_)
    · subst hR
      have e14 := e13.trans e4
      obtain ⟨b, hbn⟩ := hfs n hn
      refine g_n5 (And.intro rfl (g_yes (g_iteT (g_call (g_cons (g_v0 (g_cons (g_v1 (g_cons (g_v2 (g_cons (g_v3 (g_cons (g_call (g_cons (g_v4 (g_cons (g_v5 (g_nil ?_)))))))))))))))))))
      refine ⟨na, ns, n, rfl, hna.ex e14, by omega, fun q H5 n5 e5 hq5 => ?_⟩
      refine g_nil ?_
      have hfl := List.length_filter_le (fun x => !decide (x = n)) ns
      refine ⟨mil, g, q, m, gs, us, ws, wv, time, fewOf ns n, b, rfl, ha.ex (e14.trans e5), hq5, fun z hz => hlt z (List.mem_filter.mp hz).1, by unfold fewOf; omega, hbn, fun H6 e6 => ?_⟩
      have e : (!(shL m gs time ws (fewOf ns n) == some false)) = b := by rw [hbn]; cases b <;> rfl
      have y := hY H6 (e5.trans e6)
      rw [e] at y
      exact y
    ·
      refine g_nil ?_
      refine g_any (bs := ns.map fun n => !(shL m gs time ws (fewOf ns n) == some false)) (by rw [List.map_map]; exact hD) ?_
      refine g_k ?_
      have hd : due = !((ns.map fun n => !(shL m gs time ws (fewOf ns n) == some false)).any id) := by
        rw [hdue, hb0, List.any_map, List.not_any_eq_all_not]
        simp
      rw [← hd]
      exact hq _ (e13.trans e4)
end
end PM
/-! part F20 -/
namespace PM
open PySem PySem.Spec PyProof.Rows L2 PMH
open Evl (Ex)

local macro_rules | `(tactic| walk_at "ex") => `(tactic| first
  | with_reducible assumption
  | with_reducible exact Evl.Ex.refl _
  | (refine Evl.Ex.trans ?_ (by with_reducible assumption); walk_at "ex"))
local macro_rules | `(tactic| walk_at "hx") => `(tactic| first
  | with_reducible assumption
  | (refine At.ex (by with_reducible assumption) ?_; walk_at "ex")
  | (refine Fz.tx (by with_reducible assumption) ?_; walk_at "tx")
  | (refine TrAt.ex (by with_reducible assumption) ?_; walk_at "ex")
  | (refine MlAt.tx ?_ (by with_reducible assumption); walk_at "tx")
  | (refine PlAt.tx ?_ (by with_reducible assumption); walk_at "tx")
  | (refine LtAt.tx ?_ (by with_reducible assumption); walk_at "tx")
  | (refine GvAt.tx ?_ (by with_reducible assumption); walk_at "tx")
  | (refine WsAt.tx ?_ (by with_reducible assumption); walk_at "tx")
  | (refine RwAt.tx ?_ _ _ (by with_reducible assumption); walk_at "tx")
  | (refine RwsAt.tx ?_ _ _ (by with_reducible assumption); walk_at "tx")
  | (refine RuAt.tx ?_ (by with_reducible assumption); walk_at "tx")
  | (refine PrAt.tx ?_ (by with_reducible assumption); walk_at "tx"))
local macro_rules | `(tactic| walk_at "num") => `(tactic| first
  | with_reducible assumption
  | decide
  | exact Or.inl ⟨by omega, by omega⟩
  | exact Or.inr ⟨by omega, by omega⟩
  | (refine ⟨?_, ?_⟩ <;> omega)
  | (show (0 : Int) < _; omega))
local macro_rules | `(tactic| walk_at "tx") => `(tactic| first
  | with_reducible assumption
  | (refine Tx.ex ?_; walk_at "ex"))
local macro_rules | `(tactic| walk_at "sz") => `(tactic| first
  | with_reducible assumption
  | omega
  | (refine Evl.sz_of ?_; omega)
  | (refine Evl.sz_lt ?_; omega))
local macro_rules | `(tactic| walk_at "fl") => `(tactic| first
  | rfl
  | decide +kernel)

/-! ### what is drawn from a number -/
def StA (a : Addr) (H : Hp) : Prop := ∃ i : Int, 0 ≤ i ∧ At H a (.lst [.int i])
theorem StA.ex {a : Addr} {H H' : Hp} (h : StA a H) (e : Ex H H') : StA a H' := by
  obtain ⟨i, h1, h2⟩ := h
  exact ⟨i, h1, h2.ex e⟩
theorem StA.txk {a : Addr} {H H' : Hp} (h : StA a H) (k : Kp [a] H H') : Tx H H' := by
  obtain ⟨i, h1, h2⟩ := h
  exact kp_tx k h2
theorem g_setI {H : Hp} {a : Addr} {xs : List V} {v : V} {j : Nat} {k : Int} {R : Hp → Prop} (e : At H a (.lst xs)) (l : ixN xs.length k = some j) (q : R (upd H a (.lst (xs.set j v)))) : rSetL (.ref a) (.int k) v H R := ⟨a, xs, k, j, rfl, rfl, e, l, q⟩
theorem at_nat' {α : Type} {xs : List α} {i : Nat} (h : i < xs.length) : atI xs (i : Int) = some (xs[i]) := at_nat (List.getElem?_eq_getElem h)
theorem g_ixS {K : PySem.W.Frag} {H : Hp} {Q : VK} {a : Addr} {xs : List V} {i : Int} {v : V} (h : SqL K H a xs) (l : atI xs i = some v) (q : Q v H) : rIxL K (.ref a) (.int i) H Q := ⟨a, xs, i, v, rfl, rfl, h, l, q⟩
section
variable {P : Program} {w : World} {K : PySem.W.Frag} {mg : Str → Option Value} {base : Heap}
def sp_law_mixed : Sp := fun vs H Q _ => ∃ c k : Int, vs = [.int c, .int k] ∧ 0 ≤ k ∧ k ≤ 1000000 ∧ ∀ i : Int, Q (.int i) H
abbrev N_law_mixed : List Str := ["_law_cell", "_law_k", "_law_number"]
theorem sc_law_mixed : FnScope N_law_mixed ["_law_cell", "_law_k"] (defScope s_law_mixed) := ⟨rfl, rfl, rfl, by decide +kernel, rfl, by decide +kernel, by decide +kernel⟩
theorem ok_law_mixed (T : TX w K mg)  : Fn P w K mg base CX0 (1) "_law_mixed" ["_law_cell", "_law_k"] (sp_law_mixed) := by
  obtain ⟨fd, F⟩ := T.d_law_mixed
  refine mk_fn F T.g_law_mixed sc_law_mixed (fun vs H Q E h => by obtain ⟨_, _, rfl, _⟩ := h; rfl) (fun _ _ _ _ _ _ us hl => match us, hl with | [_, _], _ => rfl) (fun cdv A outer s H vs Q E hr h => ?_)
  obtain ⟨c, k, rfl, h1, h2, hq⟩ := h
  have hu := hu_of hr
  refine ⟨(tSeq (tAsg (tOp rModI (tOp rMulI (tOp rAddI (tVar 0) (tOp rMulI (tC (.int 7919)) (tVar 1))) (tC (.int 48271))) (tC (.int 2147483647))) (gName 2)) (tRet (tOp rModI (tOp rMulI (tVar 2) (tOp rAddI (tOp rAddI (tVar 2) (tOp rMulI (tC (.int 2)) (tVar 1))) (tC (.int 1)))) (tC (.int 2147483629))))),
      (pss_cons (ps_set (i := 2) sc_law_mixed.nd rfl (Or.inl rfl) (pe_op op_mod (pe_op op_mul (pe_op op_add (pv 0) (pe_op op_mul pe_int (pv 1))) pe_int) pe_int))
      (pss_one (ps_ret (pe_op op_mod (pe_op op_mul (pv 2) (pe_op op_add (pe_op op_add (pv 2) (pe_op op_mul pe_int (pv 1))) pe_int)) pe_int)))), ?_⟩
  refine g_start (σ' := [some _, some _, none]) rfl ?_
  refine g_seq (g_asg (g_op (g_op (g_op (g_v0 (g_op (g_c (g_v1 (g_I (by walk_at "num") (g_I0 (g_c (g_I (by walk_at "num") (g_c (g_I (by walk_at "num") (g_n2 (g_ret (g_op (g_op (g_v2 (g_op (g_op (g_v2 (g_op (g_c (g_v1 (g_I (by walk_at "num") (g_I0 (g_c (g_I0 (g_I (by walk_at "num") (g_c (g_I (by walk_at "num") ?_))))))))))))))))))))))))))))))))
  exact hq _
def sp_law_digits (K : PySem.W.Frag) : Sp := fun vs H Q _ => ∃ (sc : Addr) (cs : List Int) (k : Nat), vs = [.ref sc, .int (k : Nat)] ∧ SqL K H sc (cs.map V.int) ∧ k ≤ 100 ∧ ∀ p H', H p = none → Ex H H' → StA p H' → Q (.ref p) H'
abbrev N_law_digits : List Str := ["_law_script", "_law_k", "_law_cell", "_law_found", "_law_j"]
theorem sc_law_digits : FnScope N_law_digits ["_law_script", "_law_k"] (defScope s_law_digits) := ⟨rfl, rfl, rfl, by decide +kernel, rfl, by decide +kernel, by decide +kernel⟩
theorem ok_law_digits (T : TX w K mg)  : Fn P w K mg base CX0 (2) "_law_digits" ["_law_script", "_law_k"] (sp_law_digits K) := by
  have f_law_mixed := ok_law_mixed (P := P) (base := base) T
  obtain ⟨fd, F⟩ := T.d_law_digits
  refine mk_fn F T.g_law_digits sc_law_digits (fun vs H Q E h => by obtain ⟨_, _, _, rfl, _⟩ := h; rfl) (fun _ _ _ _ _ _ us hl => match us, hl with | [_, _], _ => rfl) (fun cdv A outer s H vs Q E hr h => ?_)
  obtain ⟨sc, cs, k, rfl, hs, hk, hq⟩ := h
  have hu := hu_of hr
  refine ⟨(tSeq (tAsg (tIf (tTest (tOp rLtI (tVar 1) (tCB (Evl.rLenS K) (tCons (tVar 0) tNil)))) (tOp (rIxL K) (tVar 0) (tVar 1)) (tC (.int 0))) (gName 2)) (tSeq (tIfS (tTest (tOp rEq (tOp rModI (tCB (Evl.rLenS K) (tCons (tVar 0) tNil)) (tC (.int 2))) (tC (.int 1)))) (tSeq (tAsg (tC (.int 0)) (gName 3)) (tSeq (tFor (iRng1 (tCons (tC (.int 12)) tNil)) (gName 4) (tAsg (tOp rAddI (tOp rMulI (tVar 3) (tC (.int 2147483629))) (tCall sp_law_mixed [] E0 (tCons (tVar 2) (tCons (tOp rAddI (tOp rMulI (tC (.int 100)) (tVar 1)) (tVar 4)) tNil)))) (gName 3))) (tAsg (tVar 3) (gName 2)))) tNext) (tRet (tLst (tCons (tCB rAbs (tCons (tVar 2) tNil)) tNil))))),
      (pss_cons (ps_set (i := 2) sc_law_digits.nd rfl (Or.inl rfl) (pe_ifExp (pt_cmpR op_lt (pv 1) (pe_callB cl_len (by rfl) T.b_len bt_len (pa_cons (pv 0) pa_nil)) (nomark _)) (pe_ix ix_list (pv 0) (pv 1) (fun _ _ => rfl)) pe_int))
      (pss_cons (ps_if (pt_cmpR op_eq (pe_op op_mod (pe_callB cl_len (by rfl) T.b_len bt_len (pa_cons (pv 0) pa_nil)) pe_int) pe_int (nomark _)) (pss_cons (ps_set (i := 3) sc_law_digits.nd rfl (Or.inl rfl) pe_int)
      (pss_cons (ps_for PassesOwn.never rfl (pi_range1 (by rfl) T.b_range (pa_cons pe_int pa_nil)) (pg_name (i := 4) sc_law_digits.nd rfl (Or.inl rfl)) (pss_one (ps_set (i := 3) sc_law_digits.nd rfl (Or.inl rfl) (pe_op op_add (pe_op op_mul (pv 3) pe_int) (f_law_mixed.ex.elim fun _ q => q.elim fun _ q => pe_call q.1 (hr.mono (by omega)) (by rfl) q.2.1 q.2.2.1 q.2.2.2 .nil pass0 (pa_cons (pv 2) (pa_cons (pe_op op_add (pe_op op_mul pe_int (pv 1)) (pv 4)) pa_nil)))))))
      (pss_one (ps_set (i := 2) sc_law_digits.nd rfl (Or.inl rfl) (pv 3))))) pss_nil)
      (pss_one (ps_ret (pe_lst (pa_cons (pe_callB cl_abs (by rfl) T.b_abs bt_abs (pa_cons (pv 2) pa_nil)) pa_nil)))))), ?_⟩
  refine g_start (σ' := [some _, some _, none, none, none]) rfl ?_
  have tail : ∀ c : Int, ∀ p H1, H p = none → Ex H H1 → At H1 p (.lst [.int (if c < 0 then -c else c)]) → Q (.ref p) H1 := fun c p H1 np e1 hp => hq p H1 np e1 ⟨_, by split <;> omega, hp⟩
  have fin : ∀ (c : Int) H1, Ex H H1 → NewL Q [.int (if c < 0 then -c else c)] H1 := fun c H1 e => g_lstN (by simp) fun p H2 np e2 hp => tail c p H2 (fresh_back e np) (e.trans e2) hp
  refine g_seq (g_asg (g_if (g_tst (g_op (g_v1 (g_cb (g_cons (g_v0 (g_nil (g_lnS (by walk_at "hx") (g_I0 (g_k ?_))))))))))))
  by_cases hlt : (k : Int) < ((cs.map V.int).length : Nat)
  · refine g_ifD1 (hlt) (g_op (g_v0 (g_v1 ?_)))
    have hk2 : k < (cs.map V.int).length := by omega
    have hk3 : k < cs.length := by simpa using hk2
    refine g_ixS (v := .int cs[k]) hs (at_nat (by rw [List.getElem?_map, List.getElem?_eq_getElem hk3]; rfl)) ?_
    refine g_n2 (g_seq (g_ifs (g_tst (g_op (g_op (g_cb (g_cons (g_v0 (g_nil (g_lnS (by walk_at "hx") (g_c (g_I (by walk_at "num") (g_c (g_eqI (g_k ?_)))))))))))))))
    by_cases ho : ((cs.map V.int).length : Int) % 2 = 1
    · refine g_ifD1 (ho) (g_seq (g_asg (g_c (g_n3 (g_seq (g_forR (g_cons (g_c (g_nil ?_)))))))))
      refine fo_R (n := 12) (by omega) (fun i σ' H' => (∃ (c f : Int) (y : Option V), σ' = [some (.ref sc), some (.int k), some (.int c), some (.int f), y]) ∧ H' = H) ⟨⟨_, _, _, rfl⟩, rfl⟩ (fun i σ' H' hi w1 => ?_) (fun σ' H' w1 => ?_)
      · obtain ⟨⟨c, f, y, rfl⟩, rfl⟩ := w1
        refine g_n4 (g_asg (g_op (g_op (g_v3 (g_c (g_I (by walk_at "num") (g_call (g_cons (g_v2 (g_cons (g_op (g_op (g_c (g_v1 (g_I (by walk_at "num") (g_v4 (g_I0 (g_nil ?_))))))))))))))))))
        refine ⟨c, _, rfl, by omega, by omega, fun z => ?_⟩
        refine g_I0 (g_n3 ?_)
        exact ⟨⟨_, _, _, rfl⟩, rfl⟩
      · obtain ⟨⟨c, f, y, rfl⟩, rfl⟩ := w1
        refine g_asg (g_v3 (g_n2 (g_ret (g_lst (g_cons (g_cb (g_cons (g_v2 (g_nil (g_abs (g_nil ?_)))))))))))
        exact fin _ _ (Evl.Ex.refl _)
    ·
      refine g_ifD0 (ho) (g_next (g_ret (g_lst (g_cons (g_cb (g_cons (g_v2 (g_nil (g_abs (g_nil ?_))))))))))
      exact fin _ _ (Evl.Ex.refl _)
  ·
    refine g_ifD0 (hlt) (g_c (g_n2 (g_seq (g_ifs (g_tst (g_op (g_op (g_cb (g_cons (g_v0 (g_nil (g_lnS (by walk_at "hx") (g_c (g_I (by walk_at "num") (g_c (g_eqI (g_k ?_)))))))))))))))))
    by_cases ho : ((cs.map V.int).length : Int) % 2 = 1
    · refine g_ifD1 (ho) (g_seq (g_asg (g_c (g_n3 (g_seq (g_forR (g_cons (g_c (g_nil ?_)))))))))
      refine fo_R (n := 12) (by omega) (fun i σ' H' => (∃ (c f : Int) (y : Option V), σ' = [some (.ref sc), some (.int k), some (.int c), some (.int f), y]) ∧ H' = H) ⟨⟨_, _, _, rfl⟩, rfl⟩ (fun i σ' H' hi w1 => ?_) (fun σ' H' w1 => ?_)
      · obtain ⟨⟨c, f, y, rfl⟩, rfl⟩ := w1
        refine g_n4 (g_asg (g_op (g_op (g_v3 (g_c (g_I (by walk_at "num") (g_call (g_cons (g_v2 (g_cons (g_op (g_op (g_c (g_v1 (g_I (by walk_at "num") (g_v4 (g_I0 (g_nil ?_))))))))))))))))))
        refine ⟨c, _, rfl, by omega, by omega, fun z => ?_⟩
        refine g_I0 (g_n3 ?_)
        exact ⟨⟨_, _, _, rfl⟩, rfl⟩
      · obtain ⟨⟨c, f, y, rfl⟩, rfl⟩ := w1
        refine g_asg (g_v3 (g_n2 (g_ret (g_lst (g_cons (g_cb (g_cons (g_v2 (g_nil (g_abs (g_nil ?_)))))))))))
        exact fin _ _ (Evl.Ex.refl _)
    ·
      refine g_ifD0 (ho) (g_next (g_ret (g_lst (g_cons (g_cb (g_cons (g_v2 (g_nil (g_abs (g_nil ?_))))))))))
      exact fin _ _ (Evl.Ex.refl _)
def sp_law_next : Sp := fun vs H Q _ => ∃ (a : Addr) (k : Int), vs = [.ref a, .int k] ∧ StA a H ∧ 0 < k ∧ k < 1000000 ∧ ∀ (f : Int) H', 0 ≤ f → f < k → Kp [a] H H' → StA a H' → Q (.int f) H'
abbrev N_law_next : List Str := ["_law_state", "_law_many", "_law_found"]
theorem sc_law_next : FnScope N_law_next ["_law_state", "_law_many"] (defScope s_law_next) := ⟨rfl, rfl, rfl, by decide +kernel, rfl, by decide +kernel, by decide +kernel⟩
theorem ok_law_next (T : TX w K mg)  : Fn P w K mg base CX0 (1) "_law_next" ["_law_state", "_law_many"] (sp_law_next) := by
  obtain ⟨fd, F⟩ := T.d_law_next
  refine mk_fn F T.g_law_next sc_law_next (fun vs H Q E h => by obtain ⟨_, _, rfl, _⟩ := h; rfl) (fun _ _ _ _ _ _ us hl => match us, hl with | [_, _], _ => rfl) (fun cdv A outer s H vs Q E hr h => ?_)
  obtain ⟨a, k, rfl, hs, h1, h2, hq⟩ := h
  have hu := hu_of hr
  refine ⟨(tSeq (tAsg (tOp rModI (tOp (rIxL K) (tVar 0) (tC (.int 0))) (tVar 1)) (gName 2)) (tSeq (tAsg (tOp rDivI (tOp (rIxL K) (tVar 0) (tC (.int 0))) (tVar 1)) (gSub (tVar 0) (tC (.int 0)) rSetL)) (tRet (tVar 2)))),
      (pss_cons (ps_set (i := 2) sc_law_next.nd rfl (Or.inl rfl) (pe_op op_mod (pe_ix ix_list (pv 0) pe_int (fun _ _ => rfl)) (pv 1)))
      (pss_cons (ps_asg (pe_op op_fdiv (pe_ix ix_list (pv 0) pe_int (fun _ _ => rfl)) (pv 1)) (pg_sub (pv 0) pe_int set_list))
      (pss_one (ps_ret (pv 2))))), ?_⟩
  refine g_start (σ' := [some _, some _, none]) rfl ?_
  obtain ⟨i, hi, ha⟩ := hs
  refine g_seq (g_asg (g_op (g_op (g_v0 (g_c (g_ixL (by walk_at "hx") (show atI _ _ = some _ from rfl) (g_v1 (g_I (by walk_at "num") (g_n2 (g_seq (g_asg (g_op (g_op (g_v0 (g_c (g_ixL (by walk_at "hx") (show atI _ _ = some _ from rfl) (g_v1 (g_I (by walk_at "num") (g_gsub (g_v0 (g_c (g_setI (by walk_at "hx") rfl ?_))))))))))))))))))))))
  refine g_ret (g_v2 ?_)
  exact hq _ _ (Int.emod_nonneg _ (by omega)) (Int.emod_lt_of_pos _ h1) (kp_upd (by simp)) ⟨i / k, Int.ediv_nonneg hi (by omega), at_new⟩
end
end PM
/-! part F25 -/
namespace PM
open PySem PySem.Spec PyProof.Rows L2 PMH
open Evl (Ex)

local macro_rules | `(tactic| walk_at "ex") => `(tactic| first
  | with_reducible assumption
  | with_reducible exact Evl.Ex.refl _
  | (refine Evl.Ex.trans ?_ (by with_reducible assumption); walk_at "ex"))
local macro_rules | `(tactic| walk_at "hx") => `(tactic| first
  | with_reducible assumption
  | (refine At.ex (by with_reducible assumption) ?_; walk_at "ex")
  | (refine Fz.tx (by with_reducible assumption) ?_; walk_at "tx")
  | (refine TrAt.ex (by with_reducible assumption) ?_; walk_at "ex")
  | (refine MlAt.tx ?_ (by with_reducible assumption); walk_at "tx")
  | (refine PlAt.tx ?_ (by with_reducible assumption); walk_at "tx")
  | (refine LtAt.tx ?_ (by with_reducible assumption); walk_at "tx")
  | (refine GvAt.tx ?_ (by with_reducible assumption); walk_at "tx")
  | (refine WsAt.tx ?_ (by with_reducible assumption); walk_at "tx")
  | (refine RwAt.tx ?_ _ _ (by with_reducible assumption); walk_at "tx")
  | (refine RwsAt.tx ?_ _ _ (by with_reducible assumption); walk_at "tx")
  | (refine RuAt.tx ?_ (by with_reducible assumption); walk_at "tx")
  | (refine PrAt.tx ?_ (by with_reducible assumption); walk_at "tx"))
local macro_rules | `(tactic| walk_at "num") => `(tactic| first
  | with_reducible assumption
  | decide
  | exact Or.inl ⟨by omega, by omega⟩
  | exact Or.inr ⟨by omega, by omega⟩
  | (refine ⟨?_, ?_⟩ <;> omega)
  | (show (0 : Int) < _; omega))
local macro_rules | `(tactic| walk_at "tx") => `(tactic| first
  | with_reducible assumption
  | (refine Tx.ex ?_; walk_at "ex"))
local macro_rules | `(tactic| walk_at "sz") => `(tactic| first
  | with_reducible assumption
  | omega
  | (refine Evl.sz_of ?_; omega)
  | (refine Evl.sz_lt ?_; omega))
local macro_rules | `(tactic| walk_at "fl") => `(tactic| first
  | rfl
  | decide +kernel)

/-! ### dict displays -/
theorem kne {a b : Nm} (h : ¬ a = b) : ¬ (Sum.inr a : Key) = Sum.inr b := fun z => h (Sum.inr.inj z)
def DiK (p : Addr) (Q : VK) (ps : List (V × V)) (H2 : Hp) : Prop := H2 p = some (.dK []) ∧ ∃ kvs : List (Key × V), ps = kvs.map (fun kv => (kV kv.1, kv.2)) ∧ kvs.length ≤ 15 ∧ Q (.ref p) (upd H2 p (.dK (mergeK [] kvs)))
section
variable {σ : L2.St} {H : Hp} {Q : VK} {tk tv : TE} {trs : List (TE × TE)} {p : Addr} {R : List (V × V) → Hp → Prop}
theorem g_disp (h : ∀ p H1, H p = none → Ex H H1 → At H1 p (.dK []) → tPairs trs σ H1 (DiK p Q)) : tDisp trs σ H Q := fun p hp => h p _ hp (ex_new hp) at_new
theorem g_pc (h : tk σ H fun x H1 => tv σ H1 fun y H2 => tPairs trs σ H2 fun ps H3 => R ((x, y) :: ps) H3) : tPairs ((tk, tv) :: trs) σ H R := h
theorem g_pn (h : R [] H) : tPairs [] σ H R := h
theorem g_dis {ps : List (V × V)} (kvs : List (Key × V)) (e : ps = kvs.map (fun kv => (kV kv.1, kv.2))) (l : kvs.length ≤ 15) (n : (kvs.map (·.1)).Nodup) (h : At H p (.dK [])) (q : ∀ H1, Kp [p] H H1 → At H1 p (.dK kvs) → Q (.ref p) H1) : DiK p Q ps H := by
  refine ⟨h, kvs, e, l, ?_⟩
  have m : mergeK [] kvs = kvs := mergeK_new kvs [] n
  rw [m]
  exact q _ (kp_upd (by simp)) at_new
end
section
variable {P : Program} {w : World} {K : PySem.W.Frag} {mg : Str → Option Value} {base : Heap}
def sp_law_value (d : Nat) : Sp := fun vs H Q _ => ∃ (t : Tr) (u : V) (a : Addr) (b : Bx) (load time : Int), vs = [u, .ref a, .int load, .int time] ∧ TrAt t u H ∧ t.deep ≤ d ∧ t.ok (b.map (·.1)) ∧ At H a (.dK (bxK b)) ∧ BxOk b ∧ (0 ≤ load ∧ load < 100) ∧ Ret (.int (t.val b load time)) H Q
abbrev N_law_value : List Str := ["_law_tree_here", "_law_boxes", "_law_load", "_law_time", "_law_word", "_law_one", "_law_other"]
theorem sc_law_value : FnScope N_law_value ["_law_tree_here", "_law_boxes", "_law_load", "_law_time"] (defScope s_law_value) := ⟨rfl, rfl, rfl, by decide +kernel, rfl, by decide +kernel, by decide +kernel⟩
theorem ok_law_value (T : TX w K mg)  (d : Nat) : Fn P w K mg base CX0 (d + 2) "_law_value" ["_law_tree_here", "_law_boxes", "_law_load", "_law_time"] (sp_law_value d) := by
  induction d with
  | zero =>
    obtain ⟨fd, F⟩ := T.d_law_value
    refine mk_fn F T.g_law_value sc_law_value (fun vs H Q E h => by obtain ⟨_, _, _, _, _, _, rfl, _⟩ := h; rfl) (fun _ _ _ _ _ _ us hl => match us, hl with | [_, _, _, _], _ => rfl) (fun cdv A outer s H vs Q E hr h => ?_)
    obtain ⟨t, u, a, b, l, m, rfl, ht, hd, hk, ha, hb, hl, hq⟩ := h
    exact absurd hd (by cases t <;> simp [Tr.deep])
  | succ d f_law_value =>
    obtain ⟨fd, F⟩ := T.d_law_value
    refine mk_fn F T.g_law_value sc_law_value (fun vs H Q E h => by obtain ⟨_, _, _, _, _, _, rfl, _⟩ := h; rfl) (fun _ _ _ _ _ _ us hl => match us, hl with | [_, _, _, _], _ => rfl) (fun cdv A outer s H vs Q E hr h => ?_)
    obtain ⟨t, u, a, b, l, m, rfl, ht, hd, hk, ha, hb, hl, hq⟩ := h
    have hu := hu_of hr
    refine ⟨(tSeq (tAsg (tOp (rIxT K) (tVar 0) (tC (.int 0))) (gName 4)) (tSeq (tIfS (tTest (tOp rEq (tVar 4) (tC (.str "num")))) (tRet (tOp (rIxT K) (tVar 0) (tC (.int 1)))) tNext) (tSeq (tIfS (tTest (tOp rEq (tVar 4) (tC (.str "box")))) (tRet (tDGet (tVar 1) (tOp (rIxT K) (tVar 0) (tC (.int 1))))) tNext) (tSeq (tIfS (tTest (tOp rEq (tVar 4) (tC (.str "load")))) (tRet (tVar 2)) tNext) (tSeq (tIfS (tTest (tOp rEq (tVar 4) (tC (.str "now")))) (tRet (tOp rModI (tVar 3) (tC (.int 100)))) tNext) (tSeq (tAsg (tCall (sp_law_value d) [] E0 (tCons (tOp (rIxT K) (tVar 0) (tC (.int 1))) (tCons (tVar 1) (tCons (tVar 2) (tCons (tVar 3) tNil))))) (gName 5)) (tSeq (tIfS (tTest (tOp rEq (tVar 4) (tC (.str "pick")))) (tRet (tCall (sp_law_value d) [] E0 (tCons (tOp (rIxT K) (tVar 0) (tOp rSubI (tC (.int 3)) (tCB rInt1 (tCons (tOp rNe (tVar 5) (tC (.int 0))) tNil)))) (tCons (tVar 1) (tCons (tVar 2) (tCons (tVar 3) tNil)))))) tNext) (tSeq (tAsg (tCall (sp_law_value d) [] E0 (tCons (tOp (rIxT K) (tVar 0) (tC (.int 2))) (tCons (tVar 1) (tCons (tVar 2) (tCons (tVar 3) tNil))))) (gName 6)) (tSeq (tIfS (tTest (tOp (rIn K false) (tVar 4) (tLst (tCons (tC (.str "less")) (tCons (tC (.str "same")) tNil))))) (tRet (tCB rInt1 (tCons (tOp (rIxL K) (tLst (tCons (tOp rLtI (tVar 5) (tVar 6)) (tCons (tOp rEq (tVar 5) (tVar 6)) tNil))) (tCB rInt1 (tCons (tOp rEq (tVar 4) (tC (.str "same"))) tNil))) tNil))) tNext) (tRet (tOp rModI (tDGet (tDisp (((tC (.str "plus")), (tOp rAddI (tVar 5) (tVar 6))) :: (((tC (.str "minus")), (tOp rSubI (tVar 5) (tVar 6))) :: (((tC (.str "times")), (tOp rMulI (tVar 5) (tVar 6))) :: [])))) (tVar 4)) (tC (.int 100))))))))))))),
      (pss_cons (ps_set (i := 4) sc_law_value.nd rfl (Or.inl rfl) (pe_ix ix_tup (pv 0) pe_int (fun _ _ => rfl)))
      (pss_cons (ps_if (pt_cmpR op_eq (pv 4) pe_str (nomark _)) (pss_one (ps_ret (pe_ix ix_tup (pv 0) pe_int (fun _ _ => rfl)))) pss_nil)
      (pss_cons (ps_if (pt_cmpR op_eq (pv 4) pe_str (nomark _)) (pss_one (ps_ret (pe_dget hu (pv 1) (pe_ix ix_tup (pv 0) pe_int (fun _ _ => rfl)) (fun _ _ => rfl)))) pss_nil)
      (pss_cons (ps_if (pt_cmpR op_eq (pv 4) pe_str (nomark _)) (pss_one (ps_ret (pv 2))) pss_nil)
      (pss_cons (ps_if (pt_cmpR op_eq (pv 4) pe_str (nomark _)) (pss_one (ps_ret (pe_op op_mod (pv 3) pe_int))) pss_nil)
      (pss_cons (ps_set (i := 5) sc_law_value.nd rfl (Or.inl rfl) (f_law_value.ex.elim fun _ q => q.elim fun _ q => pe_call q.1 (hr.mono (by omega)) (by rfl) q.2.1 q.2.2.1 q.2.2.2 .nil pass0 (pa_cons (pe_ix ix_tup (pv 0) pe_int (fun _ _ => rfl)) (pa_cons (pv 1) (pa_cons (pv 2) (pa_cons (pv 3) pa_nil))))))
      (pss_cons (ps_if (pt_cmpR op_eq (pv 4) pe_str (nomark _)) (pss_one (ps_ret (f_law_value.ex.elim fun _ q => q.elim fun _ q => pe_call q.1 (hr.mono (by omega)) (by rfl) q.2.1 q.2.2.1 q.2.2.2 .nil pass0 (pa_cons (pe_ix ix_tup (pv 0) (pe_op op_sub pe_int (pe_callTy cl_int (by rfl) T.b_int bt_int (pa_cons (pe_cmpR op_ne (pv 5) pe_int (nomark _)) pa_nil))) (fun _ _ => rfl)) (pa_cons (pv 1) (pa_cons (pv 2) (pa_cons (pv 3) pa_nil))))))) pss_nil)
      (pss_cons (ps_set (i := 6) sc_law_value.nd rfl (Or.inl rfl) (f_law_value.ex.elim fun _ q => q.elim fun _ q => pe_call q.1 (hr.mono (by omega)) (by rfl) q.2.1 q.2.2.1 q.2.2.2 .nil pass0 (pa_cons (pe_ix ix_tup (pv 0) pe_int (fun _ _ => rfl)) (pa_cons (pv 1) (pa_cons (pv 2) (pa_cons (pv 3) pa_nil))))))
      (pss_cons (ps_if (pt_cmpR op_in_seq (pv 4) (pe_lst (pa_cons pe_str (pa_cons pe_str pa_nil))) (by rfl)) (pss_one (ps_ret (pe_callTy cl_int (by rfl) T.b_int bt_int (pa_cons (pe_ix ix_list (pe_lst (pa_cons (pe_cmpR op_lt (pv 5) (pv 6) (nomark _)) (pa_cons (pe_cmpR op_eq (pv 5) (pv 6) (nomark _)) pa_nil))) (pe_callTy cl_int (by rfl) T.b_int bt_int (pa_cons (pe_cmpR op_eq (pv 4) pe_str (nomark _)) pa_nil)) (fun _ _ => rfl)) pa_nil)))) pss_nil)
      (pss_one (ps_ret (pe_op op_mod (pe_dget hu (pe_disp (pps_cons pe_str (pe_op op_add (pv 5) (pv 6)) (pps_cons pe_str (pe_op op_sub (pv 5) (pv 6)) (pps_cons pe_str (pe_op op_mul (pv 5) (pv 6)) pps_nil))) (by rfl) (by rfl) (fun z => by cases z) (by decide)) (pv 4) (fun _ _ => rfl)) pe_int)))))))))))), ?_⟩
    refine g_start (σ' := [some _, some _, some _, some _, none, none, none]) rfl ?_
    cases t with
    | num n =>
      obtain ⟨c, rfl, hc⟩ := ht
      refine g_seq (g_asg (g_op (g_v0 (g_c (g_ixT (by walk_at "hx") (show atI _ _ = some _ from rfl) (g_n4 (g_seq (g_ifs (g_tst (g_op (g_v4 (g_c (g_eqS (g_k (g_ifD1 rfl (g_ret (g_op (g_v0 (g_c (g_ixT (by walk_at "hx") (show atI _ _ = some _ from rfl) ?_))))))))))))))))))))
      exact hq _ (Evl.Ex.refl _)
    | box n =>
      obtain ⟨c, rfl, hc⟩ := ht
      refine g_seq (g_asg (g_op (g_v0 (g_c (g_ixT (by walk_at "hx") (show atI _ _ = some _ from rfl) (g_n4 (g_seq (g_ifs (g_tst (g_op (g_v4 (g_c (g_eqS (g_k (g_ifD0 (by decide +kernel) (g_next (g_seq (g_ifs (g_tst (g_op (g_v4 (g_c (g_eqS (g_k (g_ifD1 rfl (g_ret (g_dget (g_v1 (g_op (g_v0 (g_c (g_ixT (by walk_at "hx") (show atI _ _ = some _ from rfl) ?_))))))))))))))))))))))))))))))))
      refine g_dgetS ha (valV_bxK hk) ?_
      exact hq _ (Evl.Ex.refl _)
    | load =>
      obtain ⟨c, rfl, hc⟩ := ht
      refine g_seq (g_asg (g_op (g_v0 (g_c (g_ixT (by walk_at "hx") (show atI _ _ = some _ from rfl) (g_n4 (g_seq (g_ifs (g_tst (g_op (g_v4 (g_c (g_eqS (g_k (g_ifD0 (by decide +kernel) (g_next (g_seq (g_ifs (g_tst (g_op (g_v4 (g_c (g_eqS (g_k (g_ifD0 (by decide +kernel) (g_next (g_seq (g_ifs (g_tst (g_op (g_v4 (g_c (g_eqS (g_k (g_ifD1 rfl (g_ret (g_v2 ?_)))))))))))))))))))))))))))))))))))))
      exact hq _ (Evl.Ex.refl _)
    | now =>
      obtain ⟨c, rfl, hc⟩ := ht
      refine g_seq (g_asg (g_op (g_v0 (g_c (g_ixT (by walk_at "hx") (show atI _ _ = some _ from rfl) (g_n4 (g_seq (g_ifs (g_tst (g_op (g_v4 (g_c (g_eqS (g_k (g_ifD0 (by decide +kernel) (g_next (g_seq (g_ifs (g_tst (g_op (g_v4 (g_c (g_eqS (g_k (g_ifD0 (by decide +kernel) (g_next (g_seq (g_ifs (g_tst (g_op (g_v4 (g_c (g_eqS (g_k (g_ifD0 (by decide +kernel) (g_next (g_seq (g_ifs (g_tst (g_op (g_v4 (g_c (g_eqS (g_k (g_ifD1 rfl (g_ret (g_op (g_v3 (g_c (g_I (by walk_at "num") ?_))))))))))))))))))))))))))))))))))))))))))))))))))
      exact hq _ (Evl.Ex.refl _)
    | pick x y z =>
      obtain ⟨c, u1, u2, u3, rfl, hc, h1, h2, h3⟩ := ht
      simp only [Tr.deep] at hd
      obtain ⟨k1, k2, k3⟩ := hk
      have hq' : Ret (.int (if x.val b l m ≠ 0 then y.val b l m else z.val b l m)) H Q := hq
      refine g_seq (g_asg (g_op (g_v0 (g_c (g_ixT (by walk_at "hx") (show atI _ _ = some _ from rfl) (g_n4 (g_seq (g_ifs (g_tst (g_op (g_v4 (g_c (g_eqS (g_k (g_ifD0 (by decide +kernel) (g_next (g_seq (g_ifs (g_tst (g_op (g_v4 (g_c (g_eqS (g_k (g_ifD0 (by decide +kernel) (g_next (g_seq (g_ifs (g_tst (g_op (g_v4 (g_c (g_eqS (g_k (g_ifD0 (by decide +kernel) (g_next (g_seq (g_ifs (g_tst (g_op (g_v4 (g_c (g_eqS (g_k (g_ifD0 (by decide +kernel) (g_next (g_seq (g_asg (g_call (g_cons (g_op (g_v0 (g_c (g_ixT (by walk_at "hx") (show atI _ _ = some _ from rfl) (g_cons (g_v1 (g_cons (g_v2 (g_cons (g_v3 (g_nil ?_)))))))))))))))))))))))))))))))))))))))))))))))))))))))))))))
      refine ⟨x, u1, a, b, l, m, rfl, h1, by omega, k1, ha, hb, hl, fun H1 e1 => ?_⟩
      refine g_n5 (g_seq (g_ifs (g_tst (g_op (g_v4 (g_c (g_eqS (g_k (g_ifD1 rfl (g_ret (g_call (g_cons (g_op (g_v0 (g_op (g_c (g_cb (g_cons (g_op (g_v5 (g_c (g_neI (g_nil (g_intB (g_I0 ?_)))))))))))))))))))))))))
      by_cases e : x.val b l m = 0
      · rw [if_neg (not_not_intro e)] at hq'
        refine g_ixT (v := u3) (hc.ex e1) (by
          have e2 : (3 - if (!decide (x.val b l m = 0)) = true then (1 : Int) else 0) = 3 := by simp [e]
          exact (congrArg (atI _) e2).trans rfl) ?_
        refine g_cons (g_v1 (g_cons (g_v2 (g_cons (g_v3 (g_nil ?_))))))
        exact ⟨z, u3, a, b, l, m, rfl, h3.ex e1, by omega, k3, ha.ex e1, hb, hl, fun H2 e2 => hq' H2 (e1.trans e2)⟩
      · rw [if_pos e] at hq'
        refine g_ixT (v := u2) (hc.ex e1) (by
          have e2 : (3 - if (!decide (x.val b l m = 0)) = true then (1 : Int) else 0) = 2 := by simp [e]
          exact (congrArg (atI _) e2).trans rfl) ?_
        refine g_cons (g_v1 (g_cons (g_v2 (g_cons (g_v3 (g_nil ?_))))))
        exact ⟨y, u2, a, b, l, m, rfl, h2.ex e1, by omega, k2, ha.ex e1, hb, hl, fun H2 e2 => hq' H2 (e1.trans e2)⟩
    | bin o x y =>
      obtain ⟨c, u1, u2, rfl, hc, h1, h2⟩ := ht
      simp only [Tr.deep] at hd
      refine g_seq (g_asg (g_op (g_v0 (g_c (g_ixT (by walk_at "hx") (show atI _ _ = some _ from rfl) (g_n4 (g_seq (g_ifs (g_tst (g_op (g_v4 (g_c (g_eqS (g_k (g_ifD0 (op_nums o) (g_next (g_seq (g_ifs (g_tst (g_op (g_v4 (g_c (g_eqS (g_k (g_ifD0 (op_box o) (g_next (g_seq (g_ifs (g_tst (g_op (g_v4 (g_c (g_eqS (g_k (g_ifD0 (op_load o) (g_next (g_seq (g_ifs (g_tst (g_op (g_v4 (g_c (g_eqS (g_k (g_ifD0 (op_now o) (g_next (g_seq (g_asg (g_call (g_cons (g_op (g_v0 (g_c (g_ixT (by walk_at "hx") (show atI _ _ = some _ from rfl) (g_cons (g_v1 (g_cons (g_v2 (g_cons (g_v3 (g_nil ?_)))))))))))))))))))))))))))))))))))))))))))))))))))))))))))))
      refine ⟨x, u1, a, b, l, m, rfl, h1, by omega, hk.1, ha, hb, hl, fun H1 e1 => ?_⟩
      refine g_n5 (g_seq (g_ifs (g_tst (g_op (g_v4 (g_c (g_eqS (g_k (g_ifD0 (op_pick o) (g_next (g_seq (g_asg (g_call (g_cons (g_op (g_v0 (g_c (g_ixT (by walk_at "hx") (show atI _ _ = some _ from rfl) (g_cons (g_v1 (g_cons (g_v2 (g_cons (g_v3 (g_nil ?_)))))))))))))))))))))))))
      refine ⟨y, u2, a, b, l, m, rfl, h2.ex e1, by omega, hk.2, ha.ex e1, hb, hl, fun H2 e2 => ?_⟩
      have hq2 : Ret (.int (o.run (x.val b l m) (y.val b l m))) H Q := hq
      have vx := Tr.val_ok (time := m) hb hl x hk.1
      have vy := Tr.val_ok (time := m) hb hl y hk.2
      generalize x.val b l m = i at hq2 vx
      generalize y.val b l m = j at hq2 vy
      have e12 := e1.trans e2
      refine g_n6 (g_seq (g_ifs (g_tst (g_op (g_v4 (g_lst (g_cons (g_c (g_cons (g_c (g_nil ?_)))))))))))
      refine g_lstN (by simp) (fun L H3 nL e3 hL => ?_)
      have e13 := e12.trans e3

      cases o with
      | less =>
        refine g_inL0 (b := true) hL.sqL rfl rfl (by decide +kernel) ?_
        refine g_k (g_iteT (g_ret (g_cb (g_cons (g_op (g_lst (g_cons (g_op (g_v5 (g_v6 (g_I0 (g_cons (g_op (g_v5 (g_v6 (g_eqI (g_nil ?_)))))))))))))))))
        refine g_lstN (by simp) (fun L2 H4 nL2 e4 hL2 => ?_)
        refine g_cb (g_cons (g_op (g_v4 (g_c (g_eqS (g_nil (g_intB ?_)))))))
        refine g_ixL (v := .bl (decide (i < j))) hL2 rfl ?_
        refine g_nil (g_intB ?_)
        have e : (if decide (i < j) = true then (1 : Int) else 0) = Op.less.run i j := by simp [Op.run]
        rw [e]
        exact hq2 _ (e13.trans e4)
      | same =>
        refine g_inL0 (b := true) hL.sqL rfl rfl (by decide +kernel) ?_
        refine g_k (g_iteT (g_ret (g_cb (g_cons (g_op (g_lst (g_cons (g_op (g_v5 (g_v6 (g_I0 (g_cons (g_op (g_v5 (g_v6 (g_eqI (g_nil ?_)))))))))))))))))
        refine g_lstN (by simp) (fun L2 H4 nL2 e4 hL2 => ?_)
        refine g_cb (g_cons (g_op (g_v4 (g_c (g_eqS (g_nil (g_intB ?_)))))))
        refine g_ixL (v := .bl (decide (i = j))) hL2 rfl ?_
        refine g_nil (g_intB ?_)
        have e : (if decide (i = j) = true then (1 : Int) else 0) = Op.same.run i j := by simp [Op.run]
        rw [e]
        exact hq2 _ (e13.trans e4)
      | plus =>
        refine g_inL0 (b := false) hL.sqL rfl rfl (by decide +kernel) ?_
        refine g_k (g_iteF (g_next (g_ret (g_op (g_dget ?_)))))
        refine g_disp (fun D H4 nD e4 hD => g_pc (g_c (g_op (g_v5 (g_v6 (g_I0 (g_pc (g_c (g_op (g_v5 (g_v6 (g_I0 (g_pc (g_c (g_op (g_v5 (g_v6 (g_I (.inl ⟨by omega, by omega⟩) (g_pn (g_dis [(Sum.inr "plus", .int (i + j)), (Sum.inr "minus", .int (i - j)), (Sum.inr "times", .int (i * j))] rfl (by simp) (by show ([Sum.inr "plus", Sum.inr "minus", Sum.inr "times"] : List Key).Nodup; decide +kernel) hD (fun H5 k5 hD5 => ?_)))))))))))))))))))))
        refine g_v4 ?_
        refine g_dgetS (s := "plus") hD5 (valV_pos rfl) ?_
        refine g_c (g_I (by walk_at "num") ?_)
        exact hq2 _ (e13.trans (ex_kp e4 k5 (by simpa using nD)))
      | minus =>
        refine g_inL0 (b := false) hL.sqL rfl rfl (by decide +kernel) ?_
        refine g_k (g_iteF (g_next (g_ret (g_op (g_dget ?_)))))
        refine g_disp (fun D H4 nD e4 hD => g_pc (g_c (g_op (g_v5 (g_v6 (g_I0 (g_pc (g_c (g_op (g_v5 (g_v6 (g_I0 (g_pc (g_c (g_op (g_v5 (g_v6 (g_I (.inl ⟨by omega, by omega⟩) (g_pn (g_dis [(Sum.inr "plus", .int (i + j)), (Sum.inr "minus", .int (i - j)), (Sum.inr "times", .int (i * j))] rfl (by simp) (by show ([Sum.inr "plus", Sum.inr "minus", Sum.inr "times"] : List Key).Nodup; decide +kernel) hD (fun H5 k5 hD5 => ?_)))))))))))))))))))))
        refine g_v4 ?_
        refine g_dgetS (s := "minus") hD5 ((valV_neg (kne (by decide +kernel))).trans (valV_pos rfl)) ?_
        refine g_c (g_I (by walk_at "num") ?_)
        exact hq2 _ (e13.trans (ex_kp e4 k5 (by simpa using nD)))
      | times =>
        refine g_inL0 (b := false) hL.sqL rfl rfl (by decide +kernel) ?_
        refine g_k (g_iteF (g_next (g_ret (g_op (g_dget ?_)))))
        refine g_disp (fun D H4 nD e4 hD => g_pc (g_c (g_op (g_v5 (g_v6 (g_I0 (g_pc (g_c (g_op (g_v5 (g_v6 (g_I0 (g_pc (g_c (g_op (g_v5 (g_v6 (g_I (.inl ⟨by omega, by omega⟩) (g_pn (g_dis [(Sum.inr "plus", .int (i + j)), (Sum.inr "minus", .int (i - j)), (Sum.inr "times", .int (i * j))] rfl (by simp) (by show ([Sum.inr "plus", Sum.inr "minus", Sum.inr "times"] : List Key).Nodup; decide +kernel) hD (fun H5 k5 hD5 => ?_)))))))))))))))))))))
        refine g_v4 ?_
        refine g_dgetS (s := "times") hD5 ((valV_neg (kne (by decide +kernel))).trans ((valV_neg (kne (by decide +kernel))).trans (valV_pos rfl))) ?_
        refine g_c (g_I (by walk_at "num") ?_)
        exact hq2 _ (e13.trans (ex_kp e4 k5 (by simpa using nD)))
theorem ruleOf_last {ru : List (Nm × List Row)} (n : (ru.map (·.1)).Nodup) {i : Nat} {q : Nm × List Row} (h : ru[i]? = some q) (k : Nm) : ruleOf (ru.take (i + 1)) k = if q.1 = k then q.2 else ruleOf (ru.take i) k := by
  have l := (List.getElem?_eq_some_iff.mp h).1
  have g : (ru.take (i + 1))[i]? = some q := by rw [List.getElem?_take_of_lt (by omega), h]
  have tt : (ru.take (i + 1)).take i = ru.take i := by rw [List.take_take, Nat.min_eq_left (by omega)]
  have app := take_at h
  by_cases e : q.1 = k
  · rw [if_pos e]
    refine ruleOf_first g e fun x hx z => ?_
    rw [tt] at hx
    obtain ⟨j, hj, ej⟩ := List.getElem_of_mem hx
    have hj2 : j < i := by rw [List.length_take] at hj; omega
    rw [List.getElem_take] at ej
    have := List.pairwise_iff_getElem.mp n j i (by rw [List.length_map]; omega) (by rw [List.length_map]; exact l) hj2
    rw [List.getElem_map, List.getElem_map, ej, (List.getElem?_eq_some_iff.mp h).2, z, e] at this
    exact this rfl
  · rw [if_neg e, app]
    unfold ruleOf
    rw [List.lookup_append]
    have e2 : (k == q.1) = false := beq_eq_false_iff_ne.mpr fun h => e h.symm
    have e3 : List.lookup k [q] = none := by
      obtain ⟨a, b⟩ := q
      rw [List.lookup, e2]
      rfl
    rw [e3, Option.or_none]
def sp_law_rule : Sp := fun vs H Q _ => ∃ (pl : Pl) (u : V) (k : Nm), vs = [u, .str k] ∧ PlAt pl u H ∧ (pl.rules.map (·.1)).Nodup ∧ pl.rules.length ≤ 1000 ∧ ∀ v H', Ex H H' → TpAt RwAt (ruleOf pl.rules k) v H' → Q v H'
abbrev N_law_rule : List Str := ["_law_place", "_law_kind", "_law_found", "_law_other", "_law_rows"]
theorem sc_law_rule : FnScope N_law_rule ["_law_place", "_law_kind"] (defScope s_law_rule) := ⟨rfl, rfl, rfl, by decide +kernel, rfl, by decide +kernel, by decide +kernel⟩
theorem ok_law_rule (T : TX w K mg)  : Fn P w K mg base CX0 (1) "_law_rule" ["_law_place", "_law_kind"] (sp_law_rule) := by
  obtain ⟨fd, F⟩ := T.d_law_rule
  refine mk_fn F T.g_law_rule sc_law_rule (fun vs H Q E h => by obtain ⟨_, _, _, rfl, _⟩ := h; rfl) (fun _ _ _ _ _ _ us hl => match us, hl with | [_, _], _ => rfl) (fun cdv A outer s H vs Q E hr h => ?_)
  obtain ⟨pl, u, k, rfl, ha, hn, hl, hq⟩ := h
  have hu := hu_of hr
  refine ⟨(tSeq (tAsg (tTup tNil) (gName 2)) (tSeq (tFor (iTup K (tOp (rIxT K) (tVar 0) (tC (.int 2)))) (gTup K 2 (gCons (gName 3) (gCons (gName 4) gNil))) (tIfS (tTest (tOp rEq (tVar 3) (tVar 1))) (tAsg (tVar 4) (gName 2)) tNext)) (tRet (tVar 2)))),
      (pss_cons (ps_set (i := 2) sc_law_rule.nd rfl (Or.inl rfl) (pe_tup pa_nil))
      (pss_cons (ps_for PassesOwn.never rfl (pi_tup (pe_ix ix_tup (pv 0) pe_int (fun _ _ => rfl))) (pg_tup rfl (pgs_cons (pg_name (i := 3) sc_law_rule.nd rfl (Or.inl rfl)) (pgs_cons (pg_name (i := 4) sc_law_rule.nd rfl (Or.inl rfl)) pgs_nil))) (pss_one (ps_if (pt_cmpR op_eq (pv 3) (pv 1) (nomark _)) (pss_one (ps_set (i := 2) sc_law_rule.nd rfl (Or.inl rfl) (pv 4))) pss_nil)))
      (pss_one (ps_ret (pv 2))))), ?_⟩
  refine g_start (σ' := [some _, some _, none, none, none]) rfl ?_
  obtain ⟨a, x, y, rfl, hd, _, ⟨c2, us2, rfl, hc2, hal2⟩⟩ := ha
  refine g_seq (g_asg (g_tup (g_nil ?_)))
  refine g_tupN (by simp) (fun p H1 np e1 hp => ?_)
  refine g_n2 (g_seq (g_forT (g_op (g_v0 (g_c (g_ixT (by walk_at "hx") (show atI _ _ = some _ from rfl) ?_))))))
  refine fo_T (hc2.ex e1) (fun j σ' H' => (∃ v x y, σ' = [some (.ref a), some (.str k), some v, x, y] ∧ TpAt RwAt (ruleOf (pl.rules.take j) k) v H') ∧ Ex H H') ⟨⟨_, _, _, rfl, p, [], rfl, hp, rfl⟩, e1⟩ (fun j σ' H' w => hc2.ex w.2) (fun j u σ' H' hj w => ?_) (fun σ' H' w => ?_)
  · obtain ⟨⟨v, x0, y0, rfl, hv⟩, e2⟩ := w
    obtain ⟨q, hq1, hR⟩ := hal2.get hj
    obtain ⟨d2, u2, rfl, hd2, hrw⟩ := hR
    have hd2' := hd2.ex e2
    have hlast := ruleOf_last hn hq1 k
    by_cases e : q.1 = k
    · refine g_gtup (by walk_at "hx") rfl (g_gcons (g_n3 (g_gcons (g_n4 (g_gnil (g_ifs (g_tst (g_op (g_v3 (g_v1 (g_eqS (g_k (g_ifD1 (e) (g_asg (g_v4 (g_n2 ?_))))))))))))))))
      rw [if_pos e] at hlast
      exact ⟨⟨_, _, _, rfl, by rw [hlast]; exact TpAt.tx (fun x u => RwAt.tx (Tx.ex e2) x u) (Tx.ex e2) hrw⟩, e2⟩
    ·
      refine g_gtup (by walk_at "hx") rfl (g_gcons (g_n3 (g_gcons (g_n4 (g_gnil (g_ifs (g_tst (g_op (g_v3 (g_v1 (g_eqS (g_k (g_ifD0 (e) (g_next ?_))))))))))))))
      rw [if_neg e] at hlast
      exact ⟨⟨_, _, _, rfl, by rw [hlast]; exact hv⟩, e2⟩
  · obtain ⟨⟨v, x0, y0, rfl, hv⟩, e2⟩ := w
    rw [hal2.len, List.take_length] at hv
    refine g_ret (g_v2 ?_)
    exact hq _ _ e2 hv
end
end PM
/-! part F26 -/
namespace PM
open PySem PySem.Spec PyProof.Rows L2 PMH
open Evl (Ex)

local macro_rules | `(tactic| walk_at "ex") => `(tactic| first
  | with_reducible assumption
  | with_reducible exact Evl.Ex.refl _
  | (refine Evl.Ex.trans ?_ (by with_reducible assumption); walk_at "ex"))
local macro_rules | `(tactic| walk_at "hx") => `(tactic| first
  | with_reducible assumption
  | (refine At.ex (by with_reducible assumption) ?_; walk_at "ex")
  | (refine Fz.tx (by with_reducible assumption) ?_; walk_at "tx")
  | (refine TrAt.ex (by with_reducible assumption) ?_; walk_at "ex")
  | (refine MlAt.tx ?_ (by with_reducible assumption); walk_at "tx")
  | (refine PlAt.tx ?_ (by with_reducible assumption); walk_at "tx")
  | (refine LtAt.tx ?_ (by with_reducible assumption); walk_at "tx")
  | (refine GvAt.tx ?_ (by with_reducible assumption); walk_at "tx")
  | (refine WsAt.tx ?_ (by with_reducible assumption); walk_at "tx")
  | (refine RwAt.tx ?_ _ _ (by with_reducible assumption); walk_at "tx")
  | (refine RwsAt.tx ?_ _ _ (by with_reducible assumption); walk_at "tx")
  | (refine RuAt.tx ?_ (by with_reducible assumption); walk_at "tx")
  | (refine PrAt.tx ?_ (by with_reducible assumption); walk_at "tx"))
local macro_rules | `(tactic| walk_at "num") => `(tactic| first
  | with_reducible assumption
  | decide
  | exact Or.inl ⟨by omega, by omega⟩
  | exact Or.inr ⟨by omega, by omega⟩
  | (refine ⟨?_, ?_⟩ <;> omega)
  | (show (0 : Int) < _; omega))
local macro_rules | `(tactic| walk_at "tx") => `(tactic| first
  | with_reducible assumption
  | (refine Tx.ex ?_; walk_at "ex"))
local macro_rules | `(tactic| walk_at "sz") => `(tactic| first
  | with_reducible assumption
  | omega
  | (refine Evl.sz_of ?_; omega)
  | (refine Evl.sz_lt ?_; omega))
local macro_rules | `(tactic| walk_at "fl") => `(tactic| first
  | rfl
  | decide +kernel)

/-! ### the law's own model, as the heap bears it -/
structure Lm where
  m : Addr
  ba : Addr
  wa : Addr
  da : Addr
  sa : Addr
  bs : List Addr
def Lm.R (d : Lm) : List Addr := d.m :: d.ba :: d.wa :: d.da :: d.sa :: d.bs
def lmK (d : Lm) : List (Key × V) := [(Sum.inr "boxes", .ref d.ba), (Sum.inr "waiting", .ref d.wa), (Sum.inr "drawn", .ref d.da), (Sum.inr "sent", .ref d.sa)]
structure LmAt (d : Lm) (s : MS) (H : Hp) : Prop where
  self : At H d.m (.dK (lmK d))
  boxes : At H d.ba (.lst (d.bs.map V.ref))
  bl : d.bs.length = s.boxes.length
  bx : ∀ (i : Nat) (a : Addr) (b : Bx), d.bs[i]? = some a → s.boxes[i]? = some b → At H a (.dK (bxK b))
  drawn : At H d.da (.lst (isV s.drawn))
  sent : At H d.sa (.lst (isV s.sent))
  wait : ∃ us, At H d.wa (.lst us) ∧ Al LtAt s.wait us H
  nd : d.R.Nodup
section
variable {d : Lm} {s : MS} {H H' : Hp}
theorem LmAt.nes (h : LmAt d s H) : (d.m ≠ d.ba ∧ d.m ≠ d.wa ∧ d.m ≠ d.da ∧ d.m ≠ d.sa ∧ d.m ∉ d.bs) ∧ (d.ba ≠ d.wa ∧ d.ba ≠ d.da ∧ d.ba ≠ d.sa ∧ d.ba ∉ d.bs) ∧ (d.wa ≠ d.da ∧ d.wa ≠ d.sa ∧ d.wa ∉ d.bs) ∧ (d.da ≠ d.sa ∧ d.da ∉ d.bs) ∧ d.sa ∉ d.bs ∧ d.bs.Nodup := by
  have := h.nd
  simp only [Lm.R, List.nodup_cons, List.mem_cons, not_or] at this
  obtain ⟨a, b, c, e, f, g⟩ := this
  exact ⟨a, b, c, e, f, g⟩
theorem LmAt.wv (h : LmAt d s H) : valV (lmK d) (Sum.inr "waiting") = some (.ref d.wa) := (valV_neg (kne (by decide +kernel))).trans (valV_pos rfl)
theorem LmAt.bv (h : LmAt d s H) : valV (lmK d) (Sum.inr "boxes") = some (.ref d.ba) := valV_pos rfl
theorem LmAt.dv (h : LmAt d s H) : valV (lmK d) (Sum.inr "drawn") = some (.ref d.da) := (valV_neg (kne (by decide +kernel))).trans ((valV_neg (kne (by decide +kernel))).trans (valV_pos rfl))
theorem LmAt.sv (h : LmAt d s H) : valV (lmK d) (Sum.inr "sent") = some (.ref d.sa) := (valV_neg (kne (by decide +kernel))).trans ((valV_neg (kne (by decide +kernel))).trans ((valV_neg (kne (by decide +kernel))).trans (valV_pos rfl)))
theorem bs_at (h : LmAt d s H) {a : Addr} (m : a ∈ d.bs) : ∃ b, At H a (.dK (bxK b)) := by
  obtain ⟨i, hi⟩ := List.mem_iff_getElem?.mp m
  have l := (List.getElem?_eq_some_iff.mp hi).1
  exact ⟨_, h.bx i a _ hi (List.getElem?_eq_getElem (show i < s.boxes.length by rw [← h.bl]; exact l))⟩
theorem LmAt.fx (h : LmAt d s H) : ∀ b ∈ d.R, ∀ u, Fx u → H b ≠ some u := by
  intro b hb u f e
  simp only [Lm.R, List.mem_cons] at hb
  obtain ⟨us, hw, _⟩ := h.wait
  have h1 := h.self
  have h2 := h.boxes
  have h3 := h.drawn
  have h4 := h.sent
  rcases hb with rfl | rfl | rfl | rfl | rfl | hb
  · rw [h1] at e; cases e; exact f
  · rw [h2] at e; cases e; exact f
  · rw [hw] at e; cases e; exact f
  · rw [h3] at e; cases e; exact f
  · rw [h4] at e; cases e; exact f
  · obtain ⟨b', hb'⟩ := bs_at h hb
    rw [hb'] at e; cases e; exact f
theorem LmAt.nn (h : LmAt d s H) : ∀ b ∈ d.R, H b ≠ none := by
  intro b hb e
  simp only [Lm.R, List.mem_cons] at hb
  obtain ⟨us, hw, _⟩ := h.wait
  have h1 := h.self
  have h2 := h.boxes
  have h3 := h.drawn
  have h4 := h.sent
  rcases hb with rfl | rfl | rfl | rfl | rfl | hb
  · rw [h1] at e; cases e
  · rw [h2] at e; cases e
  · rw [hw] at e; cases e
  · rw [h3] at e; cases e
  · rw [h4] at e; cases e
  · obtain ⟨b', hb'⟩ := bs_at h hb
    rw [hb'] at e; cases e
theorem LmAt.txk (h : LmAt d s H) (k : Kp d.R H H') : Tx H H' := tx_kp k h.fx
theorem LmAt.tx1 (h : LmAt d s H) {a : Addr} (m : a ∈ d.R) (k : Kp [a] H H') : Tx H H' := h.txk (k.mono (by simpa using m))
theorem LmAt.ex (h : LmAt d s H) (e : Ex H H') : LmAt d s H' := by
  obtain ⟨us, hw, hal⟩ := h.wait
  exact ⟨h.self.ex e, h.boxes.ex e, h.bl, fun i a b h1 h2 => (h.bx i a b h1 h2).ex e, h.drawn.ex e, h.sent.ex e, ⟨us, hw.ex e, hal.imp fun _ _ z => z.tx (Tx.ex e)⟩, h.nd⟩
theorem LmAt.setB (h : LmAt d s H) {p : Nat} {a : Addr} (b : Bx) (ha : d.bs[p]? = some a) : LmAt d { s with boxes := s.boxes.set p b } (upd H a (.dK (bxK b))) ∧ Kp d.R H (upd H a (.dK (bxK b))) := by
  obtain ⟨us, hw, hal⟩ := h.wait
  obtain ⟨⟨_, _, _, _, n5⟩, ⟨_, _, _, n9⟩, ⟨_, _, n12⟩, ⟨_, n14⟩, n15, n16⟩ := h.nes
  have am := List.mem_of_getElem? ha
  have aR : a ∈ d.R := by simp [Lm.R, am]
  have k : Kp [a] H (upd H a (.dK (bxK b))) := kp_upd (by simp)
  have t := h.tx1 aR k
  have ne : ∀ {x : Addr}, x ∉ d.bs → x ∉ [a] := fun n z => n (by rw [List.mem_singleton.mp z]; exact am)
  refine ⟨⟨h.self.kp k (ne n5), h.boxes.kp k (ne n9), by simp [h.bl], fun i c b' hc hb => ?_, h.drawn.kp k (ne n14), h.sent.kp k (ne n15), ⟨us, hw.kp k (ne n12), hal.imp fun _ _ z => z.tx t⟩, h.nd⟩, k.mono (by simpa using aR)⟩
  by_cases e : p = i
  · subst e
    rw [ha] at hc
    cases hc
    have l : p < s.boxes.length := by rw [← h.bl]; exact (List.getElem?_eq_some_iff.mp ha).1
    rw [List.getElem?_set_self l] at hb
    cases hb
    exact at_new
  · rw [List.getElem?_set_ne e] at hb
    refine (h.bx i c b' hc hb).kp k ?_
    simp only [List.mem_singleton]
    intro z
    subst z
    obtain ⟨l1, e1⟩ := List.getElem?_eq_some_iff.mp ha
    obtain ⟨l2, e2⟩ := List.getElem?_eq_some_iff.mp hc
    rcases Nat.lt_or_gt_of_ne e with q | q
    · exact List.pairwise_iff_getElem.mp n16 p i l1 l2 q (e1.trans e2.symm)
    · exact List.pairwise_iff_getElem.mp n16 i p l2 l1 q (e2.trans e1.symm)
theorem LmAt.setD (h : LmAt d s H) (xs : List Int) : LmAt d { s with drawn := xs } (upd H d.da (.lst (isV xs))) ∧ Kp d.R H (upd H d.da (.lst (isV xs))) := by
  obtain ⟨us, hw, hal⟩ := h.wait
  obtain ⟨⟨n1, n2, n3, n4, n5⟩, ⟨n6, n7, n8, n9⟩, ⟨n10, n11, n12⟩, ⟨n13, n14⟩, n15, n16⟩ := h.nes
  have aR : d.da ∈ d.R := by simp [Lm.R]
  have k : Kp [d.da] H (upd H d.da (.lst (isV xs))) := kp_upd (by simp)
  have t := h.tx1 aR k
  exact ⟨⟨h.self.kp k (by simpa using n3), h.boxes.kp k (by simpa using n7), h.bl, fun i c b' hc hb => (h.bx i c b' hc hb).kp k (by simp only [List.mem_singleton]; intro z; subst z; exact n14 (List.mem_of_getElem? hc)), at_new, h.sent.kp k (by simpa using n13.symm), ⟨us, hw.kp k (by simpa using n10), hal.imp fun _ _ z => z.tx t⟩, h.nd⟩, k.mono (by simpa using aR)⟩
theorem LmAt.setS (h : LmAt d s H) (xs : List Int) : LmAt d { s with sent := xs } (upd H d.sa (.lst (isV xs))) ∧ Kp d.R H (upd H d.sa (.lst (isV xs))) := by
  obtain ⟨us, hw, hal⟩ := h.wait
  obtain ⟨⟨n1, n2, n3, n4, n5⟩, ⟨n6, n7, n8, n9⟩, ⟨n10, n11, n12⟩, ⟨n13, n14⟩, n15, n16⟩ := h.nes
  have aR : d.sa ∈ d.R := by simp [Lm.R]
  have k : Kp [d.sa] H (upd H d.sa (.lst (isV xs))) := kp_upd (by simp)
  have t := h.tx1 aR k
  exact ⟨⟨h.self.kp k (by simpa using n4), h.boxes.kp k (by simpa using n8), h.bl, fun i c b' hc hb => (h.bx i c b' hc hb).kp k (by simp only [List.mem_singleton]; intro z; subst z; exact n15 (List.mem_of_getElem? hc)), h.drawn.kp k (by simpa using n13), at_new, ⟨us, hw.kp k (by simpa using n11), hal.imp fun _ _ z => z.tx t⟩, h.nd⟩, k.mono (by simpa using aR)⟩
theorem LmAt.addW (h : LmAt d s H) {us : List V} {l : Lt} {v : V} (hw : At H d.wa (.lst us)) (hal : Al LtAt s.wait us H) (hv : LtAt l v H) : LmAt d { s with wait := s.wait ++ [l] } (upd H d.wa (.lst (us ++ [v]))) ∧ Kp d.R H (upd H d.wa (.lst (us ++ [v]))) := by
  obtain ⟨⟨n1, n2, n3, n4, n5⟩, ⟨n6, n7, n8, n9⟩, ⟨n10, n11, n12⟩, ⟨n13, n14⟩, n15, n16⟩ := h.nes
  have aR : d.wa ∈ d.R := by simp [Lm.R]
  have k : Kp [d.wa] H (upd H d.wa (.lst (us ++ [v]))) := kp_upd (by simp)
  have t := h.tx1 aR k
  exact ⟨⟨h.self.kp k (by simpa using n2), h.boxes.kp k (by simpa using n6), h.bl, fun i c b' hc hb => (h.bx i c b' hc hb).kp k (by simp only [List.mem_singleton]; intro z; subst z; exact n12 (List.mem_of_getElem? hc)), h.drawn.kp k (by simpa using n10.symm), h.sent.kp k (by simpa using n11.symm), ⟨us ++ [v], at_new, Al.snoc (hal.imp fun _ _ z => z.tx t) (hv.tx t)⟩, h.nd⟩, k.mono (by simpa using aR)⟩
/-- another list of what waits is put in -/
theorem LmAt.newW (h : LmAt d s H) {us : List V} {ls : List Lt} {S : Addr} (hS : At H S (.lst us)) (hal : Al LtAt ls us H) (nS : S ∉ d.R) (k : Kp [d.m] H H') (hm : At H' d.m (.dK (lmK { d with wa := S }))) : LmAt { d with wa := S } { s with wait := ls } H' := by
  obtain ⟨⟨n1, n2, n3, n4, n5⟩, ⟨n6, n7, n8, n9⟩, ⟨n10, n11, n12⟩, ⟨n13, n14⟩, n15, n16⟩ := h.nes
  have aR : d.m ∈ d.R := by simp [Lm.R]
  have t := h.tx1 aR k
  simp only [Lm.R, List.mem_cons, not_or] at nS
  obtain ⟨s1, s2, s3, s4, s5, s6⟩ := nS
  refine ⟨hm, h.boxes.kp k (by simpa using n1.symm), h.bl, fun i c b' hc hb => (h.bx i c b' hc hb).kp k (by simp only [List.mem_singleton]; intro z; subst z; exact n5 (List.mem_of_getElem? hc)), h.drawn.kp k (by simpa using n3.symm), h.sent.kp k (by simpa using n4.symm), ⟨us, hS.kp k (by simpa using s1), hal.imp fun _ _ z => z.tx t⟩, ?_⟩
  simp only [Lm.R, List.nodup_cons, List.mem_cons, not_or]
  exact ⟨⟨n1, Ne.symm s1, n3, n4, n5⟩, ⟨Ne.symm s2, n7, n8, n9⟩, ⟨s4, s5, s6⟩, ⟨n13, n14⟩, n15, n16⟩
theorem lmK_wait (d : Lm) (S : Addr) : putK (lmK d) (Sum.inr "waiting") (.ref S) = lmK { d with wa := S } := by
  have a : ¬ (("boxes" : Nm) = "waiting") := by decide +kernel
  have b : ¬ (("drawn" : Nm) = "waiting") := by decide +kernel
  have c : ¬ (("sent" : Nm) = "waiting") := by decide +kernel
  simp [putK, lmK, a, b, c]
end
theorem incr_eq : ∀ {xs ys : List Nat}, xs.Pairwise (· < ·) → ys.Pairwise (· < ·) → (∀ n, n ∈ xs ↔ n ∈ ys) → xs = ys
  | [], [], _, _, _ => rfl
  | [], y :: ys, _, _, h => absurd ((h y).mpr List.mem_cons_self) (by simp)
  | x :: xs, [], _, _, h => absurd ((h x).mp List.mem_cons_self) (by simp)
  | x :: xs, y :: ys, a, b, h => by
    rw [List.pairwise_cons] at a b
    have e : x = y := by
      have h1 := (h x).mp List.mem_cons_self
      have h2 := (h y).mpr List.mem_cons_self
      rcases List.mem_cons.mp h1 with h1 | h1
      · exact h1
      · rcases List.mem_cons.mp h2 with h2 | h2
        · exact h2.symm
        · have := b.1 x h1
          have := a.1 y h2
          omega
    subst e
    rw [incr_eq a.2 b.2 fun n => ?_]
    constructor
    · intro hn
      have := a.1 n hn
      rcases List.mem_cons.mp ((h n).mp (List.mem_cons_of_mem _ hn)) with z | z
      · omega
      · exact z
    · intro hn
      have := b.1 n hn
      rcases List.mem_cons.mp ((h n).mpr (List.mem_cons_of_mem _ hn)) with z | z
      · omega
      · exact z
def hasN (ns : List Nat) (l : Lt) : Bool := ns.any fun n => decide ((n : Int) = l.number)
theorem lts_filter {m : List Pl} {gs : List Gv} {ns : List Nat} (hl : ∀ n ∈ ns, n < gs.length) (hp : ns.Pairwise (· < ·)) : (sortL (ltsOf m gs (List.range gs.length))).filter (hasN ns) = sortL (ltsOf m gs ns) := by
  rw [sortL_filter]
  unfold ltsOf
  rw [List.filter_map]
  have e : (List.range gs.length).filter (hasN ns ∘ fun n => ltOf (namesOf m) n (gnth gs n)) = ns := by
    refine incr_eq (List.Pairwise.filter _ List.pairwise_lt_range) hp fun n => ?_
    rw [List.mem_filter, List.mem_range]
    simp only [Function.comp, hasN, List.any_eq_true]
    constructor
    · rintro ⟨_, k, hk, e⟩
      have e : (k : Int) = (n : Int) := of_decide_eq_true e
      have : k = n := by omega
      exact this ▸ hk
    · intro h
      exact ⟨hl n h, n, h, decide_eq_true (show (n : Int) = (n : Int) from rfl)⟩
  rw [e]
theorem inV_nV (z : Int) : ∀ ns : List Nat, inV (.int z) (nV ns) = ns.any fun n => decide ((n : Int) = z)
  | [] => by simp [inV]
  | n :: ns => by
    have ih := inV_nV z ns
    unfold inV at ih ⊢
    simp only [List.map_cons, List.any_cons, ih]
    by_cases e : (n : Int) = z
    · subst e
      simp [eqV]
    · have e2 : ¬ z = (n : Int) := fun h => e h.symm
      simp [eqV, e, e2]
theorem flat_nV : ∀ ns : List Nat, (nV ns).all flatV = true
  | [] => rfl
  | _ :: ns => flat_nV ns
theorem g_repL {K : PySem.W.Frag} {H : Hp} {Q : VK} {l : Addr} {v : V} {k : Nat} {j : Int} (ej : j = (k : Int)) (h : At H l (.lst [v])) (h2 : k ≤ 100) (q : ∀ p H1, H p = none → Ex H H1 → At H1 p (.lst (List.replicate k v)) → Q (.ref p) H1) : rRep (.ref l) (.int j) H Q := by
  subst ej
  refine ⟨l, k, [v], rfl, rfl, h, by omega, by omega, ?_, fun p hp => ?_⟩
  · exact Evl.sz_of (by simp; omega)
  · rw [show ((k : Int)).toNat = k by simp, flat_rep]
    exact q p _ hp (ex_new hp) at_new
section
variable {P : Program} {w : World} {K : PySem.W.Frag} {mg : Str → Option Value} {base : Heap}
def sp_law_first : Sp := fun vs H Q _ => ∃ (m : List Pl) (plv : V) (g : Addr) (gs : List Gv) (us : List V), vs = [plv, .ref g] ∧ MlAt m plv H ∧ MlOk m ∧ At H g (.lst us) ∧ Al GvAt gs us H ∧ (∀ x ∈ gs, GvOk m x) ∧ gs.length ≤ 8 ∧
  ∀ lm H', Ex H H' → (∀ a ∈ lm.R, H a = none) → LmAt lm (startOf m (ltsOf m gs (List.range gs.length))) H' → Q (.ref lm.m) H'
abbrev N_law_first : List Str := ["_law_places", "_law_given_here", "_law_place", "_law_names", "_law_letters", "_law_number", "_law_one", "_law_boxes", "_law_m"]
theorem sc_law_first : FnScope N_law_first ["_law_places", "_law_given_here"] (defScope s_law_first) := ⟨rfl, rfl, rfl, by decide +kernel, rfl, by decide +kernel, by decide +kernel⟩
theorem ok_law_first (T : TX w K mg)  : Fn P w K mg base CX0 (1) "_law_first" ["_law_places", "_law_given_here"] (sp_law_first) := by
  obtain ⟨fd, F⟩ := T.d_law_first
  refine mk_fn F T.g_law_first sc_law_first (fun vs H Q E h => by obtain ⟨_, _, _, _, _, rfl, _⟩ := h; rfl) (fun _ _ _ _ _ _ us hl => match us, hl with | [_, _], _ => rfl) (fun cdv A outer s H vs Q E hr h => ?_)
  obtain ⟨m, plv, g, gs, us, rfl, hm, hk, hg, hal, hok, hfew, hq⟩ := h
  have hu := hu_of hr
  refine ⟨(tSeq (tAsg (tLc (iTup K (tVar 0)) (gName 2) tYes (tOp (rIxT K) (tVar 2) (tC (.int 0))) [2]) (gName 3)) (tSeq (tAsg (tLst tNil) (gName 4)) (tSeq (tFor (iEnum K (tCons (tVar 1) tNil)) (gTup K 2 (gCons (gName 5) (gCons (gName 6) gNil))) (tSeq (tAsg (tBM K "list" (rIndex K) (tVar 3) (tCons (tOp (rIxT K) (tVar 6) (tC (.int 1))) tNil)) (gName 2)) (tDrop (tBM K "list" rAppend (tVar 4) (tCons (tTup (tCons (tOp (rIxT K) (tVar 6) (tC (.int 0))) (tCons (tUn (rU fun i => .int (-i)) (tC (.int 1))) (tCons (tVar 5) (tCons (tVar 2) (tCons (tOp (rIxT K) (tVar 6) (tC (.int 2))) (tCons (tOp (rIxT K) (tVar 6) (tC (.int 3))) tNil))))))) tNil))))) (tSeq (tAsg (tLc (iTup K (tVar 0)) (gName 2) tYes (tCB rDictF (tCons (tOp (rIxT K) (tVar 2) (tC (.int 1))) tNil)) [2]) (gName 7)) (tSeq (tAsg (tDisp (((tC (.str "boxes")), (tVar 7)) :: (((tC (.str "waiting")), (tCB (rSortLt K) (tCons (tVar 4) tNil))) :: []))) (gName 8)) (tSeq (sDPut (tVar 8) (tC (.str "drawn")) (tOp rRep (tLst (tCons (tC (.int 0)) tNil)) (tCB (Evl.rLenS K) (tCons (tVar 0) tNil)))) (tSeq (sDPut (tVar 8) (tC (.str "sent")) (tOp rRep (tLst (tCons (tC (.int 0)) tNil)) (tCB (Evl.rLenS K) (tCons (tVar 0) tNil)))) (tRet (tVar 8))))))))),
      (pss_cons (ps_setLc (i := 3) (own := [("_law_place", 2)]) (wi := (iTup K (tVar 0))) (g := (gName 2)) (tt := tYes) (te := (tOp (rIxT K) (tVar 2) (tC (.int 0)))) rfl sc_law_first.nd rfl rfl (sw_true rfl rfl rfl (by decide +kernel)) (pi_tup (pv 0)) (blkOk_by (N := N_law_first) (sc := defScope s_law_first) (by decide +kernel)) (fun _ _ _ _ _ => (pg_name (i := 2) sc_law_first.nd rfl (Or.inl rfl))) (fun _ _ _ _ _ => pts_nil) (fun _ _ _ _ _ => (pe_ix ix_tup (pv 2) pe_int (fun _ _ => rfl))))
      (pss_cons (ps_set (i := 4) sc_law_first.nd rfl (Or.inl rfl) (pe_lst pa_nil))
      (pss_cons (ps_for PassesOwn.never rfl (pi_enum (by rfl) T.b_enumerate (pa_cons (pv 1) pa_nil)) (pg_tup rfl (pgs_cons (pg_name (i := 5) sc_law_first.nd rfl (Or.inl rfl)) (pgs_cons (pg_name (i := 6) sc_law_first.nd rfl (Or.inl rfl)) pgs_nil))) (pss_cons (ps_set (i := 2) sc_law_first.nd rfl (Or.inl rfl) (pe_bm PySem.F.plainAttrs_list PySem.F.slot_list_index PySem.F.type_list_index mt_index (pv 3) (pa_cons (pe_ix ix_tup (pv 6) pe_int (fun _ _ => rfl)) pa_nil)))
      (pss_one (ps_expr (pe_bm PySem.F.plainAttrs_list PySem.F.slot_list_append PySem.F.type_list_append mt_append (pv 4) (pa_cons (pe_tup (pa_cons (pe_ix ix_tup (pv 6) pe_int (fun _ _ => rfl)) (pa_cons (pe_un un_neg pe_int) (pa_cons (pv 5) (pa_cons (pv 2) (pa_cons (pe_ix ix_tup (pv 6) pe_int (fun _ _ => rfl)) (pa_cons (pe_ix ix_tup (pv 6) pe_int (fun _ _ => rfl)) pa_nil))))))) pa_nil))))))
      (pss_cons (ps_setLc (i := 7) (own := [("_law_place", 2)]) (wi := (iTup K (tVar 0))) (g := (gName 2)) (tt := tYes) (te := (tCB rDictF (tCons (tOp (rIxT K) (tVar 2) (tC (.int 1))) tNil))) rfl sc_law_first.nd rfl rfl (sw_true rfl rfl rfl (by decide +kernel)) (pi_tup (pv 0)) (blkOk_by (N := N_law_first) (sc := defScope s_law_first) (by decide +kernel)) (fun _ _ _ _ _ => (pg_name (i := 2) sc_law_first.nd rfl (Or.inl rfl))) (fun _ _ _ _ _ => pts_nil) (fun _ _ _ _ _ => (pe_callTy (cl_dictF rfl) (by rfl) T.b_dict bt_dict (pa_cons (pe_ix ix_tup (pv 2) pe_int (fun _ _ => rfl)) pa_nil))))
      (pss_cons (ps_set (i := 8) sc_law_first.nd rfl (Or.inl rfl) (pe_disp (pps_cons pe_str (pv 7) (pps_cons pe_str (pe_callB (cr_sortLt hr.units) (by rfl) T.b_sorted bt_sorted (pa_cons (pv 4) pa_nil)) pps_nil)) (by rfl) (by rfl) (fun z => by cases z) (by decide)))
      (pss_cons (ps_dput hu (pv 8) pe_str (pe_op op_rep (pe_lst (pa_cons pe_int pa_nil)) (pe_callB cl_len (by rfl) T.b_len bt_len (pa_cons (pv 0) pa_nil))) rfl)
      (pss_cons (ps_dput hu (pv 8) pe_str (pe_op op_rep (pe_lst (pa_cons pe_int pa_nil)) (pe_callB cl_len (by rfl) T.b_len bt_len (pa_cons (pv 0) pa_nil))) rfl)
      (pss_one (ps_ret (pv 8)))))))))), ?_⟩
  refine g_start (σ' := [some _, some _, none, none, none, none, none, none, none]) rfl ?_
  obtain ⟨c, ps, rfl, hc, hpal⟩ := hm
  have hm4 := hk.most
  have hm1 := hk.one
  have hpl := hpal.len
  refine g_seq (g_asg (g_lcT (g_v0 ?_)))
  refine lc_mapT (R := PlAt) (ds := m) (h := fun p => .str p.name) hc hpal (by omega) (fun r u H1 e h => h.tx (Tx.ex e)) (fun r hm u H2 e2 hR Y N hY => ?_) (fun N1 H1 nN e1 hN => ?_)
  · obtain ⟨d, x, y, rfl, hd, _, _⟩ := hR
    refine g_n2 (And.intro rfl (g_yes (g_iteT (g_op (g_v2 (g_c (g_ixT (by walk_at "hx") (show atI _ _ = some _ from rfl) ?_)))))))
    exact hY _ (Evl.Ex.refl _)
  · have hN : At H1 N1 (.lst (sV (namesOf m))) := by unfold namesOf; rw [sV_map]; exact hN
    refine g_n3 (g_seq (g_asg (g_lst (g_nil ?_))))
    refine g_lstN (by simp) (fun F H2 nF e2 hF => ?_)
    have e12 := e1.trans e2
    refine g_n4 (g_seq (g_forE (g_cons (g_v1 (g_nil ?_)))))
    refine fo_E (hg.ex e12) (fun i σ' H' => (∃ x2 x5 x6, σ' = [some (.ref c), some (.ref g), x2, some (.ref N1), some (.ref F), x5, x6, none, none]) ∧ Ex H1 H' ∧ ∃ vs, At H' F (.lst vs) ∧ Al LtAt (ltsOf m gs (List.range i)) vs H')
      ⟨⟨_, _, _, rfl⟩, e2, [], hF, rfl⟩ (fun i σ' H' w1 => hg.ex (e1.trans w1.2.1)) (fun i u p σ' H' H3 hi w1 np e3 hp _ => ?_) (fun σ' H' w1 => ?_)
    · obtain ⟨⟨x2, x5, x6, rfl⟩, w2, vs, w3, w4⟩ := w1
      obtain ⟨gv, hgi, hgu⟩ := hal.get hi
      obtain ⟨gu, rfl, hgt⟩ := hgu
      have hgo := hok gv (List.mem_of_getElem? hgi)
      have e13 := e1.trans (w2.trans e3)
      have hgt3 := hgt.ex e13
      have hN3 := hN.ex (w2.trans e3)
      obtain ⟨q, pl, hq1, en⟩ := names_mem hgo.place
      have hin := names_at hq1
      rw [en] at hin
      refine g_gtup (by walk_at "hx") rfl (g_gcons (g_n5 (g_gcons (g_n6 (g_gnil (g_seq (g_asg (g_bm (g_v3 (g_tyL (by walk_at "hx") (g_cons (g_op (g_v6 (g_c (g_ixT (by walk_at "hx") (show atI _ _ = some _ from rfl) (g_nil ?_))))))))))))))))
      refine g_idxN hN3 hin hk.nd ?_
      have w33 := w3.ex e3
      refine g_n2 (g_drop (g_bm (g_v4 (g_tyL (by walk_at "hx") (g_cons (g_tup (g_cons (g_op (g_v6 (g_c (g_ixT (by walk_at "hx") (show atI _ _ = some _ from rfl) (g_cons (g_un (g_c (g_uI (g_cons (g_v5 (g_cons (g_v2 (g_cons (g_op (g_v6 (g_c (g_ixT (by walk_at "hx") (show atI _ _ = some _ from rfl) (g_cons (g_op (g_v6 (g_c (g_ixT (by walk_at "hx") (show atI _ _ = some _ from rfl) (g_nil ?_))))))))))))))))))))))))))))))
      refine g_tupN (by simp) (fun tp H4 ntp e4 htp => ?_)
      have w34 := w33.ex e4
      have hvl : vs.length ≤ 100 := by
        rw [w4.len]
        unfold ltsOf
        rw [List.length_map, List.length_range]
        have := (List.getElem?_eq_some_iff.mp hgi).1
        omega
      refine g_nil (g_app (by walk_at "hx") (by walk_at "sz") ?_)
      have tt : Tx H4 (upd H4 F (.lst (vs ++ [.ref tp]))) := tx_mut w34
      refine ⟨⟨_, _, _, rfl⟩, ex_upd (w2.trans (e3.trans e4)) nF, vs ++ [.ref tp], at_new, ?_⟩
      have el : ltsOf m gs (List.range (i + 1)) = ltsOf m gs (List.range i) ++ [ltOf (namesOf m) i gv] := by
        unfold ltsOf
        rw [List.range_succ, List.map_append]
        have eg : gnth gs i = gv := by unfold gnth; rw [hgi]; rfl
        show _ ++ [ltOf (namesOf m) i (gnth gs i)] = _
        rw [eg]
      rw [el]
      refine Al.snoc (w4.imp fun _ _ z => z.tx ((Tx.ex (e3.trans e4)).trans tt)) ⟨tp, rfl, tt _ _ trivial ?_⟩
      unfold ltOf
      rw [idx_at hin hk.nd]
      exact htp
    · obtain ⟨⟨x2, x5, x6, rfl⟩, w2, vs, w3, w4⟩ := w1
      rw [hal.len] at w4
      have e1' := e1.trans w2
      have hc' := hc.ex e1'
      have hpal' : Al PlAt m ps H' := hpal.imp fun _ _ z => z.tx (Tx.ex e1')
      refine g_seq (g_asg (g_lcT (g_v0 ?_)))
      refine lc_genT hc'.sqT (fun D i acc G => Ex H' G ∧ ∃ as : List Addr, acc = as.map V.ref ∧ as.length = i ∧ as.Nodup ∧ (∀ a ∈ as, H' a = none) ∧ ∀ (j : Nat) (a : Addr) (pl : Pl), as[j]? = some a → m[j]? = some pl → At G a (.dK (bxK pl.boxes))) (by omega)
        (fun D G nD e hD => ⟨e, [], rfl, rfl, List.nodup_nil, fun a h => (by cases h), fun j a pl h => (by simp at h)⟩) (fun D i acc G wi => (hc'.ex wi.1).sqT) (fun D i u acc G nD hi hli wi hD Y N hY hN => ?_) (fun B acc G nB wi hB => ?_)
      · obtain ⟨eG, as, rfl, hl, nda, fra, hda⟩ := wi
        obtain ⟨pl, hpi, hR⟩ := hpal'.get hi
        obtain ⟨pa, u1, u2, rfl, hpt, ⟨ba, bvs, rfl, hbz, hbal⟩, _⟩ := hR
        have hpok := hk.pl pl (List.mem_of_getElem? hpi)
        have hptG := hpt.ex eG
        refine g_n2 (And.intro rfl (g_yes (g_iteT (g_cb (g_cons (g_op (g_v2 (g_c (g_ixT (by walk_at "hx") (show atI _ _ = some _ from rfl) (g_nil ?_))))))))))
        refine g_dictF (hbz.tx (Tx.ex eG)) (hbal.imp fun _ _ z => z.tx (Tx.ex eG)) hpok.nd (by have := hpok.few; omega) (fun q G2 nq eq hq2 => ?_)
        have hD2 := hD.ex eq
        have kD : Kp [D] G2 (upd G2 D (.lst (as.map V.ref ++ [.ref q]))) := kp_upd (by simp)
        have dne : ∀ {a : Addr} {b : Bx}, At G2 a (.dK (bxK b)) → a ∉ [D] := fun {a b} h => by
          simp only [List.mem_singleton]
          exact h.ne hD2 (by intro z; cases z)
        refine hY _ G2 hD2 ⟨ex_upd (eG.trans eq) nD, as ++ [q], by simp, by simp [hl], ?_, fun a ha => ?_, fun j a pl' hj hm' => ?_⟩
        · rw [List.nodup_append]
          refine ⟨nda, by simp, fun a ha b hb z => ?_⟩
          rw [List.mem_singleton.mp hb] at z
          subst z
          obtain ⟨j, hj⟩ := List.mem_iff_getElem?.mp ha
          have lj := (List.getElem?_eq_some_iff.mp hj).1
          have li := (List.getElem?_eq_some_iff.mp hpi).1
          have := hda j a _ hj (List.getElem?_eq_getElem (show j < m.length by omega))
          exact this.ne0 nq rfl
        · rcases List.mem_append.mp ha with ha | ha
          · exact fra a ha
          · rw [List.mem_singleton.mp ha]
            exact fresh_back eG nq
        · by_cases hjl : j < as.length
          · rw [List.getElem?_append_left hjl] at hj
            have := (hda j a pl' hj hm').ex eq
            exact this.kp kD (dne this)
          · have ej : j = as.length := by
              have := (List.getElem?_eq_some_iff.mp hj).1
              simp at this
              omega
            subst ej
            rw [hl, hpi] at hm'
            cases hm'
            simp at hj
            subst hj
            exact hq2.kp kD (dne hq2)
      · obtain ⟨eG, as, rfl, hl, nda, fra, hda⟩ := wi
        have hw4 := w3.ex eG
        have hal4 : Al LtAt (ltsOf m gs (List.range gs.length)) vs G := w4.imp fun _ _ z => z.tx (Tx.ex eG)
        refine g_n7 (g_seq (g_asg ?_))
        refine g_disp (fun D H6 nD e6 hD => g_pc (g_c (g_v7 (g_pc (g_c (g_cb (g_cons (g_v4 (g_nil ?_)))))))))
        refine g_sortLt (hw4.ex e6) (hal4.imp fun _ _ z => z.tx (Tx.ex e6)) (by unfold ltsOf; rw [List.length_map, List.length_range]; omega) (fun S H7 us7 nS e7 hS hal7 => ?_)
        refine g_pn (g_dis [(Sum.inr "boxes", .ref B), (Sum.inr "waiting", .ref S)] rfl (by simp) (by show ([Sum.inr "boxes", Sum.inr "waiting"] : List Key).Nodup; decide +kernel) (hD.ex e7) (fun H8 k8 hD8 => ?_))
        refine g_n8 (g_seq (g_dput (g_op (g_lst (g_cons (g_c (g_nil ?_)))))))
        refine g_lstN (by simp) (fun Z1 H9 nZ1 e9 hZ1 => ?_)
        have eG8 : Ex G H8 := ex_kp (e6.trans e7) k8 (by simpa using nD)
        have hc9 := hc'.ex (eG.trans (eG8.trans e9))
        refine g_cb (g_cons (g_v0 (g_nil (g_lnT (by walk_at "hx") ?_))))
        refine g_repL (K := K) (k := m.length) (by rw [hpl]) hZ1 (by omega) (fun DL H10 nDL e10 hDL => ?_)
        have hD10 := (hD8.ex e9).ex e10
        refine g_v8 (g_c ?_)
        refine g_dputS hD10 (by exact Evl.sz_lt (by simp)) ?_
        have n1 : valV ([(Sum.inr "boxes", V.ref B), (Sum.inr "waiting", V.ref S)] : List (Key × V)) (Sum.inr "drawn") = none := Eq.trans (valV_neg (kne (by decide +kernel))) (Eq.trans (valV_neg (kne (by decide +kernel))) valV_nil)
        have pk1 : putK ([(Sum.inr "boxes", V.ref B), (Sum.inr "waiting", V.ref S)] : List (Key × V)) (Sum.inr "drawn") (V.ref DL) = ([(Sum.inr "boxes", V.ref B), (Sum.inr "waiting", V.ref S), (Sum.inr "drawn", V.ref DL)] : List (Key × V)) :=
          putK_new _ n1
        rw [pk1]
        refine g_upd (fun H11 k11 hD11 => ?_)
        refine g_seq (g_dput (g_op (g_lst (g_cons (g_c (g_nil ?_))))))
        refine g_lstN (by simp) (fun Z2 H12 nZ2 e12' hZ2 => ?_)
        have eG11 : Ex G H11 := ex_kp (eG8.trans (e9.trans e10)) k11 (by simpa using nD)
        have hc12 := hc'.ex (eG.trans (eG11.trans e12'))
        refine g_cb (g_cons (g_v0 (g_nil (g_lnT (by walk_at "hx") ?_))))
        refine g_repL (K := K) (k := m.length) (by rw [hpl]) hZ2 (by omega) (fun SL H13 nSL e13 hSL => ?_)
        have hD13 := (hD11.ex e12').ex e13
        refine g_v8 (g_c ?_)
        refine g_dputS hD13 (by exact Evl.sz_lt (by simp)) ?_
        have n2 : valV ([(Sum.inr "boxes", V.ref B), (Sum.inr "waiting", V.ref S), (Sum.inr "drawn", .ref DL)] : List (Key × V)) (Sum.inr "sent") = none := Eq.trans (valV_neg (kne (by decide +kernel))) (Eq.trans (valV_neg (kne (by decide +kernel))) (Eq.trans (valV_neg (kne (by decide +kernel))) valV_nil))
        have pk2 : putK ([(Sum.inr "boxes", V.ref B), (Sum.inr "waiting", V.ref S), (Sum.inr "drawn", .ref DL)] : List (Key × V)) (Sum.inr "sent") (V.ref SL) = ([(Sum.inr "boxes", V.ref B), (Sum.inr "waiting", V.ref S), (Sum.inr "drawn", V.ref DL), (Sum.inr "sent", V.ref SL)] : List (Key × V)) :=
          putK_new _ n2
        rw [pk2]
        refine g_upd (fun H14 k14 hD14 => ?_)
        refine g_ret (g_v8 ?_)
        have eG14 : Ex G H14 := ex_kp (eG11.trans (e12'.trans e13)) k14 (by simpa using nD)
        have hB6 := hB.ex e6
        have k714 : Kp [D] H7 H14 := (k8.trans (kp_ex (e9.trans e10))).trans ((k11.trans (kp_ex (e12'.trans e13))).trans k14)
        have k1014 : Kp [D] H10 H14 := (k11.trans (kp_ex (e12'.trans e13))).trans k14
        have SD : S ≠ D := (hD.ne0 nS).symm
        have DLD : DL ≠ D := ((hD8.ex e9).ne0 nDL).symm
        have SLD : SL ≠ D := ((hD11.ex e12').ne0 nSL).symm
        have e0G := e1'.trans eG
        have fD : G D = none := nD
        have fS : G S = none := fresh_back e6 nS
        have fDL : G DL = none := fresh_back (eG8.trans e9) nDL
        have fSL : G SL = none := fresh_back (eG11.trans e12') nSL
        have fr : ∀ {x : Addr}, G x = none → H x = none := fun h => fresh_back e0G h
        have nas : ∀ {x : Addr}, G x = none → x ∉ as := fun {x} h z => by
          obtain ⟨j, hj⟩ := List.mem_iff_getElem?.mp z
          have lj := (List.getElem?_eq_some_iff.mp hj).1
          have := hda j x _ hj (List.getElem?_eq_getElem (show j < m.length by omega))
          exact this.ne0 h rfl
        have nBas : B ∉ as := fun z => by
          obtain ⟨j, hj⟩ := List.mem_iff_getElem?.mp z
          have lj := (List.getElem?_eq_some_iff.mp hj).1
          have := hda j B _ hj (List.getElem?_eq_getElem (show j < m.length by omega))
          exact At.ne this hB (by intro z; cases z) rfl
        have hS8 : At H8 S (.lst us7) := hS.kp k8 (by simpa using SD)
        have SDL : S ≠ DL := (hS8.ex e9).ne0 nDL
        have hS11 : At H11 S (.lst us7) := (hS8.ex (e9.trans e10)).kp k11 (by simpa using SD)
        have SSL : S ≠ SL := (hS11.ex e12').ne0 nSL
        have hDL11 := hDL.kp k11 (by simpa using DLD)
        have DLSL : DL ≠ SL := (hDL11.ex e12').ne0 nSL
        have rep : ∀ k, isV (List.replicate k 0) = List.replicate k (.int 0) := fun k => by unfold isV; rw [List.map_replicate]
        have tx714 : Tx H7 H14 := kp_tx k714 (hD.ex e7)
        refine hq ⟨D, B, S, DL, SL, as⟩ H14 (e0G.trans eG14) (fun a ha => ?_) ⟨hD14, hB.ex eG14, by show as.length = (m.map _).length; rw [List.length_map]; omega, fun i a b h1 h2 => ?_, ?_, ?_, ⟨us7, hS.kp k714 (by simpa using SD), hal7.imp fun _ _ z => z.tx tx714⟩, ?_⟩
        · simp only [Lm.R, List.mem_cons] at ha
          rcases ha with rfl | rfl | rfl | rfl | rfl | ha
          · exact fr fD
          · exact fresh_back e1' nB
          · exact fr fS
          · exact fr fDL
          · exact fr fSL
          · exact fresh_back e1' (fra a ha)
        · unfold startOf at h2
          rw [List.getElem?_map] at h2
          obtain ⟨pl, hp1, rfl⟩ := Option.map_eq_some_iff.mp h2
          exact (hda i a pl h1 hp1).ex eG14
        · show At H14 DL (.lst (isV (List.replicate m.length 0)))
          rw [rep]
          exact hDL.kp k1014 (by simpa using DLD)
        · show At H14 SL (.lst (isV (List.replicate m.length 0)))
          rw [rep]
          exact hSL.kp k14 (by simpa using SLD)
        · simp only [Lm.R, List.nodup_cons, List.mem_cons, not_or]
          exact ⟨⟨(hB.ne0 fD).symm, SD.symm, DLD.symm, SLD.symm, nas fD⟩, ⟨hB.ne0 fS, hB.ne0 fDL, hB.ne0 fSL, nBas⟩, ⟨SDL, SSL, nas fS⟩, ⟨DLSL, nas fDL⟩, nas fSL, nda⟩
def sp_law_with : Sp := fun vs H Q _ => ∃ (m : List Pl) (plv : V) (g na : Addr) (gs : List Gv) (us : List V) (ns : List Nat), vs = [plv, .ref g, .ref na] ∧ MlAt m plv H ∧ MlOk m ∧ At H g (.lst us) ∧ Al GvAt gs us H ∧ (∀ x ∈ gs, GvOk m x) ∧ gs.length ≤ 8 ∧ At H na (.lst (nV ns)) ∧ (∀ n ∈ ns, n < gs.length) ∧ ns.Pairwise (· < ·) ∧
  ∀ lm H', Ex H H' → (∀ a ∈ lm.R, H a = none) → LmAt lm (startOf m (ltsOf m gs ns)) H' → Q (.ref lm.m) H'
abbrev N_law_with : List Str := ["_law_places", "_law_given_here", "_law_numbers", "_law_m", "_law_letter"]
theorem sc_law_with : FnScope N_law_with ["_law_places", "_law_given_here", "_law_numbers"] (defScope s_law_with) := ⟨rfl, rfl, rfl, by decide +kernel, rfl, by decide +kernel, by decide +kernel⟩
theorem ok_law_with (T : TX w K mg)  : Fn P w K mg base CX0 (2) "_law_with" ["_law_places", "_law_given_here", "_law_numbers"] (sp_law_with) := by
  have f_law_first := ok_law_first (P := P) (base := base) T
  obtain ⟨fd, F⟩ := T.d_law_with
  refine mk_fn F T.g_law_with sc_law_with (fun vs H Q E h => by obtain ⟨_, _, _, _, _, _, _, rfl, _⟩ := h; rfl) (fun _ _ _ _ _ _ us hl => match us, hl with | [_, _, _], _ => rfl) (fun cdv A outer s H vs Q E hr h => ?_)
  obtain ⟨m, plv, g, na, gs, us, ns, rfl, hm, hk, hg, hal, hok, hfew, hna, hlt, hpw, hq⟩ := h
  have hu := hu_of hr
  refine ⟨(tSeq (tAsg (tCall sp_law_first [] E0 (tCons (tVar 0) (tCons (tVar 1) tNil))) (gName 3)) (tSeq (sDPut (tVar 3) (tC (.str "waiting")) (tLc (iList K (tDGet (tVar 3) (tC (.str "waiting")))) (gName 4) (tTest (tOp (rIn K false) (tOp (rIxT K) (tVar 4) (tC (.int 2))) (tVar 2))) (tVar 4) [4])) (tRet (tVar 3)))),
      (pss_cons (ps_set (i := 3) sc_law_with.nd rfl (Or.inl rfl) (f_law_first.ex.elim fun _ q => q.elim fun _ q => pe_call q.1 (hr.mono (by omega)) (by rfl) q.2.1 q.2.2.1 q.2.2.2 .nil pass0 (pa_cons (pv 0) (pa_cons (pv 1) pa_nil))))
      (pss_cons (ps_dput hu (pv 3) pe_str (pe_lc (own := [("_law_letter", 4)]) (wi := (iList K (tDGet (tVar 3) (tC (.str "waiting"))))) (g := (gName 4)) (tt := (tTest (tOp (rIn K false) (tOp (rIxT K) (tVar 4) (tC (.int 2))) (tVar 2)))) (te := (tVar 4)) rfl sc_law_with.nd (pi_list (pe_dget hu (pv 3) pe_str (fun _ _ => rfl))) (blkOk_by (N := N_law_with) (sc := defScope s_law_with) (by decide +kernel)) (fun _ _ _ _ _ => (pg_name (i := 4) sc_law_with.nd rfl (Or.inl rfl))) (fun _ _ _ _ _ => (pts_one (pt_cmpR op_in_seq (pe_ix ix_tup (pv 4) pe_int (fun _ _ => rfl)) (pv 2) (by rfl)))) (fun _ _ _ _ _ => (pv 4))) rfl)
      (pss_one (ps_ret (pv 3))))), ?_⟩
  refine g_start (σ' := [some _, some _, some _, none, none]) rfl ?_
  refine g_seq (g_asg (g_call (g_cons (g_v0 (g_cons (g_v1 (g_nil ?_)))))))
  refine ⟨m, plv, g, gs, us, rfl, hm, hk, hg, hal, hok, hfew, fun lm H1 e1 fr h1 => ?_⟩
  obtain ⟨vs, hw, hwal⟩ := h1.wait
  have hself := h1.self
  refine g_n3 (g_seq (g_dput (g_lcL (g_dget (g_v3 (g_c ?_))))))
  refine g_dgetS hself h1.wv ?_
  refine lc_pureL (R := LtAt) (S := LtAt) (ds := (startOf m (ltsOf m gs (List.range gs.length))).wait) (p := hasN ns) (f := id) hw hwal (by
      show (sortL _).length ≤ _
      rw [sortL_length]
      unfold ltsOf
      rw [List.length_map, List.length_range]
      omega) (fun _ _ _ e h => h.tx (Tx.ex e)) (fun _ _ _ _ t h => h.tx t) (fun o hm u H2 e2 hR Y N hY hN => ?_) (fun D acc H2 n2 e2 hD hacc => ?_)
  · obtain ⟨la, rfl, hla⟩ := id hR
    have hna2 := hna.ex (e1.trans e2)
    refine g_n4 (And.intro rfl (g_tst (g_op (g_op (g_v4 (g_c (g_ixT (by walk_at "hx") (show atI _ _ = some _ from rfl) (g_v2 ?_))))))))
    refine g_inL0 (b := hasN ns o) hna2.sqL rfl (flat_nV _) (inV_nV _ _) ?_
    cases hb : hasN ns o with
    | true =>
      refine g_k (g_iteT (g_v4 ?_))
      exact hY _ _ (Evl.Ex.refl _) hb hR
    | false =>
      refine g_k (g_iteF ?_)
      exact hN _ (Evl.Ex.refl _) hb
  · rw [List.map_id] at hacc
    have hself2 := hself.ex e2
    refine g_v3 (g_c ?_)
    refine g_dputS hself2 (by exact Evl.sz_lt (by simp [lmK])) ?_
    rw [lmK_wait]
    refine g_upd (fun H3 k3 h3 => ?_)
    refine g_ret (g_v3 ?_)
    have mR : lm.m ∈ lm.R := by simp [Lm.R]
    have nD : D ∉ lm.R := fun z => (h1.nn D z) n2
    have L := (h1.ex e2).newW hD hacc nD k3 h3
    rw [show (startOf m (ltsOf m gs (List.range gs.length))).wait = sortL (ltsOf m gs (List.range gs.length)) from rfl, lts_filter hlt hpw] at L
    refine hq { lm with wa := D } H3 (ex_kp (e1.trans e2) k3 (by simpa using fr _ mR)) (fun a ha => ?_) L
    simp only [Lm.R, List.mem_cons] at ha fr
    rcases ha with rfl | rfl | rfl | rfl | rfl | ha
    · exact fr _ (by simp)
    · exact fr _ (by simp)
    · exact fresh_back e1 n2
    · exact fr _ (by simp)
    · exact fr _ (by simp)
    · exact fr _ (by simp [ha])
end
end PM
/-! part F27 -/
namespace PM
open PySem PySem.Spec PyProof.Rows L2 PMH
open Evl (Ex)

local macro_rules | `(tactic| walk_at "ex") => `(tactic| first
  | with_reducible assumption
  | with_reducible exact Evl.Ex.refl _
  | (refine Evl.Ex.trans ?_ (by with_reducible assumption); walk_at "ex"))
local macro_rules | `(tactic| walk_at "hx") => `(tactic| first
  | with_reducible assumption
  | (refine At.ex (by with_reducible assumption) ?_; walk_at "ex")
  | (refine Fz.tx (by with_reducible assumption) ?_; walk_at "tx")
  | (refine TrAt.ex (by with_reducible assumption) ?_; walk_at "ex")
  | (refine MlAt.tx ?_ (by with_reducible assumption); walk_at "tx")
  | (refine PlAt.tx ?_ (by with_reducible assumption); walk_at "tx")
  | (refine LtAt.tx ?_ (by with_reducible assumption); walk_at "tx")
  | (refine GvAt.tx ?_ (by with_reducible assumption); walk_at "tx")
  | (refine WsAt.tx ?_ (by with_reducible assumption); walk_at "tx")
  | (refine RwAt.tx ?_ _ _ (by with_reducible assumption); walk_at "tx")
  | (refine RwsAt.tx ?_ _ _ (by with_reducible assumption); walk_at "tx")
  | (refine RuAt.tx ?_ (by with_reducible assumption); walk_at "tx")
  | (refine PrAt.tx ?_ (by with_reducible assumption); walk_at "tx"))
local macro_rules | `(tactic| walk_at "num") => `(tactic| first
  | with_reducible assumption
  | decide
  | exact Or.inl ⟨by omega, by omega⟩
  | exact Or.inr ⟨by omega, by omega⟩
  | (refine ⟨?_, ?_⟩ <;> omega)
  | (show (0 : Int) < _; omega))
local macro_rules | `(tactic| walk_at "tx") => `(tactic| first
  | with_reducible assumption
  | (refine Tx.ex ?_; walk_at "ex"))
local macro_rules | `(tactic| walk_at "sz") => `(tactic| first
  | with_reducible assumption
  | omega
  | (refine Evl.sz_of ?_; omega)
  | (refine Evl.sz_lt ?_; omega))
local macro_rules | `(tactic| walk_at "fl") => `(tactic| first
  | rfl
  | decide +kernel)

def P3K (i j l : Nat) (nx : L2.St → Hp → Prop) (σ : L2.St) (vs : List V) (H1 : Hp) : Prop := ∃ u v w, vs = [u, v, w] ∧ nx (((σ.set i (some u)).set j (some v)).set l (some w)) H1
theorem g_par3 {i j l : Nat} {ta : TA} {nx bk ct : L2.St → Hp → Prop} {rt : VK} {σ : L2.St} {H : Hp} (h : ta σ H (P3K i j l nx σ)) : tPar3 i j l ta ⟨nx, rt, bk, ct⟩ σ H := h
theorem g_p3 {i j l : Nat} {nx : L2.St → Hp → Prop} {σ σ' : L2.St} {u v w : V} {H : Hp} (e : ((σ.set i (some u)).set j (some v)).set l (some w) = σ') (h : nx σ' H) : P3K i j l nx σ [u, v, w] H := ⟨u, v, w, rfl, e ▸ h⟩
def withW (s : MS) (p : Nat) (w : WS) : MS := ⟨s.boxes.set p w.bx, s.drawn.set p w.c, s.sent.set p w.n, s.wait ++ w.out⟩
theorem withW_bx (s : MS) (p : Nat) (w : WS) (b : Bx) : ({ withW s p w with boxes := (withW s p w).boxes.set p b } : MS) = withW s p { w with bx := b } := by simp [withW, List.set_set]
theorem withW_c (s : MS) (p : Nat) (w : WS) (c : Int) : ({ withW s p w with drawn := (withW s p w).drawn.set p c } : MS) = withW s p { w with c := c } := by simp [withW, List.set_set]
theorem withW_n (s : MS) (p : Nat) (w : WS) (n : Int) : ({ withW s p w with sent := (withW s p w).sent.set p n } : MS) = withW s p { w with n := n } := by simp [withW, List.set_set]
theorem withW_out (s : MS) (p : Nat) (w : WS) (l : Lt) : ({ withW s p w with wait := (withW s p w).wait ++ [l] } : MS) = withW s p { w with out := w.out ++ [l] } := by simp [withW]
theorem isV_set (xs : List Int) (p : Nat) (c : Int) : (isV xs).set p (.int c) = isV (xs.set p c) := by
  unfold isV
  rw [List.map_set]
theorem isV_at {xs : List Int} {p : Nat} {c : Int} (h : xs[p]? = some c) : atI (isV xs) (p : Int) = some (.int c) := at_nat (by unfold isV; rw [List.getElem?_map, h]; rfl)
theorem Row.deep_lt {c : Tr} {x y : List Row} {d : Nat} (h : (Row.ite c x y).deep ≤ d) : Row.deeps x < d ∧ Row.deeps y < d := by
  simp only [Row.deep] at h
  omega
section
variable {P : Program} {w : World} {K : PySem.W.Frag} {mg : Str → Option Value} {base : Heap}
def sp_law_rows_done (d : Nat) : Sp := fun vs H Q _ => ∃ (m : List Pl) (plv : V) (lm : Lm) (s : MS) (p : Nat) (lt : Lt) (la : V) (rs : List Row) (rv : V) (w : WS) (bs : List Nm), vs = [plv, .ref lm.m, la, rv] ∧ MlAt m plv H ∧ MlOk m ∧ LtAt lt la H ∧ lt.place = (p : Nat) ∧ p < m.length ∧
  s.boxes.length = m.length ∧ s.drawn.length = m.length ∧ s.sent.length = m.length ∧ s.wait.length ≤ 5000 ∧ LmAt lm (withW s p w) H ∧ WOk bs w ∧ (0 ≤ lt.load ∧ lt.load < 100) ∧ TpAt RwAt rs rv H ∧ Row.oks bs (namesOf m) rs ∧ Row.deeps rs < d ∧ w.c + Row.cnts rs ≤ 9000 ∧ w.n + Row.cnts rs ≤ 9000 ∧
  ∀ H', Kp lm.R H H' → LmAt lm (withW s p (rowsDo (namesOf m) p lt.time lt.load rs w)) H' → Q .non H'
abbrev N_law_rows_done : List Str := ["_law_places", "_law_m", "_law_letter", "_law_rows", "_law_time", "_law_p", "_law_load", "_law_boxes", "_law_names", "_law_row_here", "_law_c", "_law_some", "_law_goal", "_law_number", "_law_more", "_law_place"]
theorem sc_law_rows_done : FnScope N_law_rows_done ["_law_places", "_law_m", "_law_letter", "_law_rows"] (defScope s_law_rows_done) := ⟨rfl, rfl, rfl, by decide +kernel, rfl, by decide +kernel, by decide +kernel⟩
theorem ok_law_rows_done (T : TX w K mg)  (d : Nat) : Fn P w K mg base CX0 (d + 6) "_law_rows_done" ["_law_places", "_law_m", "_law_letter", "_law_rows"] (sp_law_rows_done d) := by
  have f_law_value := ok_law_value (P := P) (base := base) T 3
  induction d with
  | zero =>
    obtain ⟨fd, F⟩ := T.d_law_rows_done
    refine mk_fn F T.g_law_rows_done sc_law_rows_done (fun vs H Q E h => by obtain ⟨_, _, _, _, _, _, _, _, _, _, _, rfl, _⟩ := h; rfl) (fun _ _ _ _ _ _ us hl => match us, hl with | [_, _, _, _], _ => rfl) (fun cdv A outer s H vs Q E hr h => ?_)
    obtain ⟨m, plv, lm, s, p, lt, la, rs, rv, w, bs, rfl, hm, hk, hl, hp, hpm, hb1, hb2, hb3, hb4, hlm, hw, hl0, hrs, hok, hd, hc, hn, hq⟩ := h
    omega
  | succ d f_law_rows_done =>
    obtain ⟨fd, F⟩ := T.d_law_rows_done
    refine mk_fn F T.g_law_rows_done sc_law_rows_done (fun vs H Q E h => by obtain ⟨_, _, _, _, _, _, _, _, _, _, _, rfl, _⟩ := h; rfl) (fun _ _ _ _ _ _ us hl => match us, hl with | [_, _, _, _], _ => rfl) (fun cdv A outer s H vs Q E hr h => ?_)
    obtain ⟨m, plv, lm, s, p, lt, la, rs, rv, w, bs, rfl, hm, hk, hl, hp, hpm, hb1, hb2, hb3, hb4, hlm, hw, hl0, hrs, hok, hd, hc, hn, hq⟩ := h
    have hu := hu_of hr
    refine ⟨(tSeq (tPar3 4 5 6 (tCons (tOp (rIxT K) (tVar 2) (tC (.int 0))) (tCons (tOp (rIxT K) (tVar 2) (tC (.int 3))) (tCons (tOp (rIxT K) (tVar 2) (tC (.int 5))) tNil)))) (tSeq (tAsg (tOp (rIxL K) (tDGet (tVar 1) (tC (.str "boxes"))) (tVar 5)) (gName 7)) (tSeq (tAsg (tLc (iTup K (tVar 0)) (gName 15) tYes (tOp (rIxT K) (tVar 15) (tC (.int 0))) [15]) (gName 8)) (tFor (iTup K (tVar 3)) (gName 9) (tIfS (tTest (tOp rEq (tOp (rIxT K) (tVar 9) (tC (.int 0))) (tC (.str "set")))) (sDPut (tVar 7) (tOp (rIxT K) (tVar 9) (tC (.int 1))) (tCall (sp_law_value 3) [] E0 (tCons (tOp (rIxT K) (tVar 9) (tC (.int 2))) (tCons (tVar 7) (tCons (tVar 6) (tCons (tVar 4) tNil)))))) (tIfS (tTest (tOp rEq (tOp (rIxT K) (tVar 9) (tC (.int 0))) (tC (.str "draw")))) (tSeq (tAsg (tOp (rIxL K) (tDGet (tVar 1) (tC (.str "drawn"))) (tVar 5)) (gName 10)) (tSeq (tAsg (tOp rAddI (tOp rAddI (tOp rAddI (tOp rMulI (tVar 10) (tVar 10)) (tOp rMulI (tOp rMulI (tC (.int 3)) (tVar 10)) (tVar 5))) (tVar 5)) (tOp rDivI (tVar 10) (tC (.int 2)))) (gName 11)) (tSeq (sDPut (tVar 7) (tOp (rIxT K) (tVar 9) (tC (.int 1))) (tOp rModI (tVar 11) (tOp (rIxT K) (tVar 9) (tC (.int 2))))) (tAsg (tOp rAddI (tVar 10) (tC (.int 1))) (gSub (tDGet (tVar 1) (tC (.str "drawn"))) (tVar 5) rSetL))))) (tIfS (tTest (tOp rEq (tOp (rIxT K) (tVar 9) (tC (.int 0))) (tC (.str "send")))) (tSeq (tAsg (tCall (sp_law_value 3) [] E0 (tCons (tOp (rIxT K) (tVar 9) (tC (.int 4))) (tCons (tVar 7) (tCons (tVar 6) (tCons (tVar 4) tNil))))) (gName 11)) (tSeq (tAsg (tBM K "list" (rIndex K) (tVar 8) (tCons (tOp (rIxT K) (tVar 9) (tC (.int 1))) tNil)) (gName 12)) (tSeq (tAsg (tOp (rIxL K) (tDGet (tVar 1) (tC (.str "sent"))) (tVar 5)) (gName 13)) (tSeq (tAsg (tTup (tCons (tOp rAddI (tVar 4) (tOp (rIxT K) (tVar 9) (tC (.int 3)))) (tCons (tVar 5) (tCons (tVar 13) tNil)))) (gName 14)) (tSeq (tDrop (tBM K "list" rAppend (tDGet (tVar 1) (tC (.str "waiting"))) (tCons (tOp (rCatA K) (tVar 14) (tTup (tCons (tVar 12) (tCons (tOp (rIxT K) (tVar 9) (tC (.int 2))) (tCons (tVar 11) tNil))))) tNil))) (tAsg (tOp rAddI (tOp (rIxL K) (tDGet (tVar 1) (tC (.str "sent"))) (tVar 5)) (tC (.int 1))) (gSub (tDGet (tVar 1) (tC (.str "sent"))) (tVar 5) rSetL))))))) (tSeq (tAsg (tCall (sp_law_value 3) [] E0 (tCons (tOp (rIxT K) (tVar 9) (tC (.int 1))) (tCons (tVar 7) (tCons (tVar 6) (tCons (tVar 4) tNil))))) (gName 11)) (tDrop (tCall (sp_law_rows_done d) [] E0 (tCons (tVar 0) (tCons (tVar 1) (tCons (tVar 2) (tCons (tOp (rIxT K) (tVar 9) (tOp rSubI (tC (.int 3)) (tCB rInt1 (tCons (tOp rNe (tVar 11) (tC (.int 0))) tNil)))) tNil)))))))))))))),
      (pss_cons (ps_par3 (by rfl) sc_law_rows_done.nd rfl rfl rfl (by decide) (by decide) (by decide) rfl rfl rfl (pa_cons (pe_ix ix_tup (pv 2) pe_int (fun _ _ => rfl)) (pa_cons (pe_ix ix_tup (pv 2) pe_int (fun _ _ => rfl)) (pa_cons (pe_ix ix_tup (pv 2) pe_int (fun _ _ => rfl)) pa_nil))) (by rfl))
      (pss_cons (ps_set (i := 7) sc_law_rows_done.nd rfl (Or.inl rfl) (pe_ix ix_list (pe_dget hu (pv 1) pe_str (fun _ _ => rfl)) (pv 5) (fun _ _ => rfl)))
      (pss_cons (ps_setLc (i := 8) (own := [("_law_place", 15)]) (wi := (iTup K (tVar 0))) (g := (gName 15)) (tt := tYes) (te := (tOp (rIxT K) (tVar 15) (tC (.int 0)))) rfl sc_law_rows_done.nd rfl rfl (sw_true rfl rfl rfl (by decide +kernel)) (pi_tup (pv 0)) (blkOk_by (N := N_law_rows_done) (sc := defScope s_law_rows_done) (by decide +kernel)) (fun _ _ _ _ _ => (pg_name (i := 15) sc_law_rows_done.nd rfl (Or.inl rfl))) (fun _ _ _ _ _ => pts_nil) (fun _ _ _ _ _ => (pe_ix ix_tup (pv 15) pe_int (fun _ _ => rfl))))
      (pss_one (ps_for PassesOwn.never rfl (pi_tup (pv 3)) (pg_name (i := 9) sc_law_rows_done.nd rfl (Or.inl rfl)) (pss_one (ps_if (pt_cmpR op_eq (pe_ix ix_tup (pv 9) pe_int (fun _ _ => rfl)) pe_str (nomark _)) (pss_one (ps_dput hu (pv 7) (pe_ix ix_tup (pv 9) pe_int (fun _ _ => rfl)) (f_law_value.ex.elim fun _ q => q.elim fun _ q => pe_call q.1 (hr.mono (by omega)) (by rfl) q.2.1 q.2.2.1 q.2.2.2 .nil pass0 (pa_cons (pe_ix ix_tup (pv 9) pe_int (fun _ _ => rfl)) (pa_cons (pv 7) (pa_cons (pv 6) (pa_cons (pv 4) pa_nil))))) rfl)) (pss_one (ps_if (pt_cmpR op_eq (pe_ix ix_tup (pv 9) pe_int (fun _ _ => rfl)) pe_str (nomark _)) (pss_cons (ps_set (i := 10) sc_law_rows_done.nd rfl (Or.inl rfl) (pe_ix ix_list (pe_dget hu (pv 1) pe_str (fun _ _ => rfl)) (pv 5) (fun _ _ => rfl)))
      (pss_cons (ps_set (i := 11) sc_law_rows_done.nd rfl (Or.inl rfl) (pe_op op_add (pe_op op_add (pe_op op_add (pe_op op_mul (pv 10) (pv 10)) (pe_op op_mul (pe_op op_mul pe_int (pv 10)) (pv 5))) (pv 5)) (pe_op op_fdiv (pv 10) pe_int)))
      (pss_cons (ps_dput hu (pv 7) (pe_ix ix_tup (pv 9) pe_int (fun _ _ => rfl)) (pe_op op_mod (pv 11) (pe_ix ix_tup (pv 9) pe_int (fun _ _ => rfl))) rfl)
      (pss_one (ps_asg (pe_op op_add (pv 10) pe_int) (pg_sub (pe_dget hu (pv 1) pe_str (fun _ _ => rfl)) (pv 5) set_list)))))) (pss_one (ps_if (pt_cmpR op_eq (pe_ix ix_tup (pv 9) pe_int (fun _ _ => rfl)) pe_str (nomark _)) (pss_cons (ps_set (i := 11) sc_law_rows_done.nd rfl (Or.inl rfl) (f_law_value.ex.elim fun _ q => q.elim fun _ q => pe_call q.1 (hr.mono (by omega)) (by rfl) q.2.1 q.2.2.1 q.2.2.2 .nil pass0 (pa_cons (pe_ix ix_tup (pv 9) pe_int (fun _ _ => rfl)) (pa_cons (pv 7) (pa_cons (pv 6) (pa_cons (pv 4) pa_nil))))))
      (pss_cons (ps_set (i := 12) sc_law_rows_done.nd rfl (Or.inl rfl) (pe_bm PySem.F.plainAttrs_list PySem.F.slot_list_index PySem.F.type_list_index mt_index (pv 8) (pa_cons (pe_ix ix_tup (pv 9) pe_int (fun _ _ => rfl)) pa_nil)))
      (pss_cons (ps_set (i := 13) sc_law_rows_done.nd rfl (Or.inl rfl) (pe_ix ix_list (pe_dget hu (pv 1) pe_str (fun _ _ => rfl)) (pv 5) (fun _ _ => rfl)))
      (pss_cons (ps_set (i := 14) sc_law_rows_done.nd rfl (Or.inl rfl) (pe_tup (pa_cons (pe_op op_add (pv 4) (pe_ix ix_tup (pv 9) pe_int (fun _ _ => rfl))) (pa_cons (pv 5) (pa_cons (pv 13) pa_nil)))))
      (pss_cons (ps_expr (pe_bm PySem.F.plainAttrs_list PySem.F.slot_list_append PySem.F.type_list_append mt_append (pe_dget hu (pv 1) pe_str (fun _ _ => rfl)) (pa_cons (pe_op op_catA (pv 14) (pe_tup (pa_cons (pv 12) (pa_cons (pe_ix ix_tup (pv 9) pe_int (fun _ _ => rfl)) (pa_cons (pv 11) pa_nil))))) pa_nil)))
      (pss_one (ps_asg (pe_op op_add (pe_ix ix_list (pe_dget hu (pv 1) pe_str (fun _ _ => rfl)) (pv 5) (fun _ _ => rfl)) pe_int) (pg_sub (pe_dget hu (pv 1) pe_str (fun _ _ => rfl)) (pv 5) set_list)))))))) (pss_cons (ps_set (i := 11) sc_law_rows_done.nd rfl (Or.inl rfl) (f_law_value.ex.elim fun _ q => q.elim fun _ q => pe_call q.1 (hr.mono (by omega)) (by rfl) q.2.1 q.2.2.1 q.2.2.2 .nil pass0 (pa_cons (pe_ix ix_tup (pv 9) pe_int (fun _ _ => rfl)) (pa_cons (pv 7) (pa_cons (pv 6) (pa_cons (pv 4) pa_nil))))))
      (pss_one (ps_expr (f_law_rows_done.ex.elim fun _ q => q.elim fun _ q => pe_call q.1 (hr.mono (by omega)) (by rfl) q.2.1 q.2.2.1 q.2.2.2 .nil pass0 (pa_cons (pv 0) (pa_cons (pv 1) (pa_cons (pv 2) (pa_cons (pe_ix ix_tup (pv 9) (pe_op op_sub pe_int (pe_callTy cl_int (by rfl) T.b_int bt_int (pa_cons (pe_cmpR op_ne (pv 11) pe_int (nomark _)) pa_nil))) (fun _ _ => rfl)) pa_nil))))))))))))))))))), ?_⟩
    refine g_start (σ' := [some _, some _, some _, some _, none, none, none, none, none, none, none, none, none, none, none, none]) rfl ?_
    obtain ⟨la0, rfl, hla⟩ := id hl
    rw [hp] at hla
    obtain ⟨c, us, rfl, hcc, hal⟩ := hrs
    obtain ⟨pc, pvs, rfl, hpc, hpal⟩ := id hm
    have W := fun i : Nat => rowsDo_ok (p := p) (t := lt.time) hl0 (rs.take i) w hw (Row.oks_take i hok)
    have hself := hlm.self
    have hboxes := hlm.boxes
    have hm4 := hk.most
    refine g_seq (g_par3 (g_cons (g_op (g_v2 (g_c (g_ixT (by walk_at "hx") (show atI _ _ = some _ from rfl) (g_cons (g_op (g_v2 (g_c (g_ixT (by walk_at "hx") (show atI _ _ = some _ from rfl) (g_cons (g_op (g_v2 (g_c (g_ixT (by walk_at "hx") (show atI _ _ = some _ from rfl) (g_nil ?_)))))))))))))))))
    refine g_p3 (σ' := [some (.ref pc), some (.ref lm.m), some (.ref la0), some (.ref c), some (.int lt.time), some (.int (p : Nat)), some (.int lt.load), none, none, none, none, none, none, none, none, none]) rfl ?_
    refine g_seq (g_asg (g_op (g_dget (g_v1 (g_c ?_)))))
    refine g_dgetS hself hlm.bv ?_
    refine g_v5 ?_
    obtain ⟨ba, hba⟩ : ∃ a, lm.bs[p]? = some a := ⟨_, List.getElem?_eq_getElem (show p < lm.bs.length by rw [hlm.bl]; simp [withW]; omega)⟩
    refine g_ixL (v := .ref ba) hboxes (at_nat (by rw [List.getElem?_map, hba]; rfl)) ?_
    refine g_n7 (g_seq (g_asg (g_lcT (g_v0 ?_))))
    refine lc_mapT (R := PlAt) (ds := m) (h := fun p => .str p.name) hpc hpal (by omega) (fun r u H1 e h => h.tx (Tx.ex e)) (fun r hm u H2 e2 hR Y N hY => ?_) (fun N1 H1 nN e1 hN => ?_)
    · obtain ⟨d, x, y, rfl, hd, _, _⟩ := hR
      refine g_n15 (And.intro rfl (g_yes (g_iteT (g_op (g_v15 (g_c (g_ixT (by walk_at "hx") (show atI _ _ = some _ from rfl) ?_)))))))
      exact hY _ (Evl.Ex.refl _)
    · have hN : At H1 N1 (.lst (sV (namesOf m))) := by unfold namesOf; rw [sV_map]; exact hN
      have nN1 : N1 ∉ lm.R := fun z => hlm.nn N1 z nN
      have hlm1 := hlm.ex e1
      refine g_n8 (g_forT (g_v3 ?_))
      refine fo_T (hcc.ex e1) (fun i σ' H' => (∃ x9 x10 x11 x12 x13 x14 x15, σ' = [some (.ref pc), some (.ref lm.m), some (.ref la0), some (.ref c), some (.int lt.time), some (.int (p : Nat)), some (.int lt.load), some (.ref ba), some (.ref N1), x9, x10, x11, x12, x13, x14, x15]) ∧ Kp lm.R H1 H' ∧ LmAt lm (withW s p (rowsDo (namesOf m) p lt.time lt.load (rs.take i) w)) H')
        ⟨⟨_, _, _, _, _, _, _, rfl⟩, Kp.refl, by simp only [List.take_zero, rowsDo]; exact hlm1⟩ (fun i σ' H' w1 => (hcc.ex e1).tx (hlm1.txk w1.2.1)) (fun i u σ' H' hi w1 => ?_) (fun σ' H' w1 => ?_)
      · obtain ⟨⟨x9, x10, x11, x12, x13, x14, x15, rfl⟩, w2, w3⟩ := w1
        obtain ⟨r, hr1, hR⟩ := hal.get hi
        have tt := (Tx.ex e1).trans (hlm1.txk w2)
        have hR' := RwAt.tx tt r u hR
        have hN' : At H' N1 (.lst (sV (namesOf m))) := hN.kp w2 nN1
        have hmem := List.mem_of_getElem? hr1
        have okr := Row.oks_mem hok hmem
        have dpr := (Row.cnts_mem hmem).2
        have hct := Row.cnts_take hr1
        have Wi := W i
        have e : rowsDo (namesOf m) p lt.time lt.load (rs.take (i + 1)) w = rowDo (namesOf m) p lt.time lt.load r (rowsDo (namesOf m) p lt.time lt.load (rs.take i) w) := by
          rw [take_at hr1, rowsDo_append]
          simp only [rowsDo]
        generalize rowsDo (namesOf m) p lt.time lt.load (rs.take i) w = wi at w3 Wi e
        have c2 := Wi.c2
        have n2 := Wi.n2
        have c0 := Wi.ok.c0
        have fewo := Wi.ok.few
        have hba' : (withW s p wi).boxes[p]? = some wi.bx := by
          unfold withW
          exact List.getElem?_set_self (by omega)
        have hdr' : (withW s p wi).drawn[p]? = some wi.c := by
          unfold withW
          exact List.getElem?_set_self (by omega)
        have hse' : (withW s p wi).sent[p]? = some wi.n := by
          unfold withW
          exact List.getElem?_set_self (by omega)
        have hbx := w3.bx p ba wi.bx hba hba'
        have small : (bxK wi.bx).length < sizeLine := by
          have e := congrArg List.length Wi.ok.names
          rw [List.length_map] at e
          have := Wi.ok.len
          rw [bxK_len]
          exact Evl.sz_lt (by omega)
        have hself3 := w3.self
        cases r with
        | set n t =>
          unfold RwAt at hR'
          obtain ⟨c9, v, rfl, hcc9, ht⟩ := hR'
          unfold Row.ok at okr
          refine g_n9 (g_ifs (g_tst (g_op (g_op (g_v9 (g_c (g_ixT (by walk_at "hx") (show atI _ _ = some _ from rfl) (g_c (g_eqS (g_k (g_ifD1 rfl (g_dput (g_call (g_cons (g_op (g_v9 (g_c (g_ixT (by walk_at "hx") (show atI _ _ = some _ from rfl) (g_cons (g_v7 (g_cons (g_v6 (g_cons (g_v4 (g_nil ?_)))))))))))))))))))))))))
          refine ⟨t, v, ba, wi.bx, lt.load, lt.time, rfl, ht, okr.2.2.1, by rw [Wi.ok.names]; exact okr.2.1, hbx, Wi.ok.ok, hl0, fun H2 e2 => ?_⟩
          have hcc92 := hcc9.ex e2
          refine g_v7 (g_op (g_v9 (g_c (g_ixT (by walk_at "hx") (show atI _ _ = some _ from rfl) ?_))))
          refine g_dputS (hbx.ex e2) small ?_
          rw [putK_bxK _ (by rw [Wi.ok.names]; exact okr.1)]
          have z := (w3.ex e2).setB (put wi.bx n (t.val wi.bx lt.load lt.time)) hba
          rw [withW_bx] at z
          exact ⟨⟨_, _, _, _, _, _, _, rfl⟩, w2.trans ((kp_ex e2).trans z.2), by rw [e]; unfold rowDo; exact z.1⟩
        | draw n k =>
          unfold RwAt at hR'
          obtain ⟨c9, rfl, hcc9⟩ := hR'
          unfold Row.ok at okr
          obtain ⟨k1, k2, k3⟩ := okr
          unfold Row.cnt at hct
          refine g_n9 (g_ifs (g_tst (g_op (g_op (g_v9 (g_c (g_ixT (by walk_at "hx") (show atI _ _ = some _ from rfl) (g_c (g_eqS (g_k (g_ifD0 (by decide +kernel) (g_ifs (g_tst (g_op (g_op (g_v9 (g_c (g_ixT (by walk_at "hx") (show atI _ _ = some _ from rfl) (g_c (g_eqS (g_k (g_ifD1 rfl (g_seq (g_asg (g_op (g_dget (g_v1 (g_c ?_))))))))))))))))))))))))))))
          refine g_dgetS hself3 w3.dv ?_
          refine g_v5 ?_
          refine g_ixL (v := .int wi.c) w3.drawn (isV_at hdr') ?_
          refine g_n10 (g_seq (g_asg (g_op (g_op (g_op (g_op (g_v10 (g_v10 (g_I (by walk_at "num") (g_op (g_op (g_c (g_v10 (g_I (by walk_at "num") (g_v5 (g_I (by walk_at "num") (g_I0 (g_v5 (g_I0 (g_op (g_v10 (g_c (g_I (by walk_at "num") (g_I0 (g_n11 (g_seq (g_dput (g_op (g_v11 (g_op (g_v9 (g_c (g_ixT (by walk_at "hx") (show atI _ _ = some _ from rfl) (g_I (by walk_at "num") (g_v7 (g_op (g_v9 (g_c (g_ixT (by walk_at "hx") (show atI _ _ = some _ from rfl) ?_)))))))))))))))))))))))))))))))))))))))
          refine g_dputS hbx small ?_
          rw [putK_bxK _ (by rw [Wi.ok.names]; exact k1)]
          have z := w3.setB (put wi.bx n ((wi.c * wi.c + 3 * wi.c * (p : Nat) + (p : Nat) + wi.c / 2) % k)) hba
          rw [withW_bx] at z
          generalize upd H' ba (.dK (bxK (put wi.bx n ((wi.c * wi.c + 3 * wi.c * (p : Nat) + (p : Nat) + wi.c / 2) % k)))) = H2 at z
          have hselfz := z.1.self
          refine g_asg (g_op (g_v10 (g_c (g_I0 (g_gsub (g_dget (g_v1 (g_c ?_))))))))
          refine g_dgetS hselfz z.1.dv ?_
          refine g_v5 ?_
          refine g_setI (j := p) z.1.drawn (Evl.ixN_nat (by simp [isV, withW]; omega)) ?_
          rw [isV_set]
          have z2 := z.1.setD ((withW s p { wi with bx := put wi.bx n ((wi.c * wi.c + 3 * wi.c * (p : Nat) + (p : Nat) + wi.c / 2) % k) }).drawn.set p (wi.c + 1))
          rw [withW_c] at z2
          exact ⟨⟨_, _, _, _, _, _, _, rfl⟩, w2.trans (z.2.trans z2.2), by rw [e]; unfold rowDo drawOf; exact z2.1⟩
        | send g k sp t =>
          unfold RwAt at hR'
          obtain ⟨c9, v, rfl, hcc9, ht⟩ := hR'
          unfold Row.ok at okr
          obtain ⟨k1, k2, k3, k4, k5⟩ := okr
          unfold Row.cnt at hct
          obtain ⟨j, pl, hj, en⟩ := names_mem k1
          have hin := names_at hj
          rw [en] at hin
          refine g_n9 (g_ifs (g_tst (g_op (g_op (g_v9 (g_c (g_ixT (by walk_at "hx") (show atI _ _ = some _ from rfl) (g_c (g_eqS (g_k (g_ifD0 (by decide +kernel) (g_ifs (g_tst (g_op (g_op (g_v9 (g_c (g_ixT (by walk_at "hx") (show atI _ _ = some _ from rfl) (g_c (g_eqS (g_k (g_ifD0 (by decide +kernel) (g_ifs (g_tst (g_op (g_op (g_v9 (g_c (g_ixT (by walk_at "hx") (show atI _ _ = some _ from rfl) (g_c (g_eqS (g_k (g_ifD1 rfl (g_seq (g_asg (g_call (g_cons (g_op (g_v9 (g_c (g_ixT (by walk_at "hx") (show atI _ _ = some _ from rfl) (g_cons (g_v7 (g_cons (g_v6 (g_cons (g_v4 (g_nil ?_))))))))))))))))))))))))))))))))))))))))))))))))
          refine ⟨t, v, ba, wi.bx, lt.load, lt.time, rfl, ht, k5.2.1, by rw [Wi.ok.names]; exact k5.1, hbx, Wi.ok.ok, hl0, fun H2 e2 => ?_⟩
          have hcc92 := hcc9.ex e2
          have hN2 := hN'.ex e2
          have w32 := w3.ex e2
          refine g_n11 (g_seq (g_asg (g_bm (g_v8 (g_tyL (by walk_at "hx") (g_cons (g_op (g_v9 (g_c (g_ixT (by walk_at "hx") (show atI _ _ = some _ from rfl) (g_nil ?_)))))))))))
          refine g_idxN hN2 hin hk.nd ?_
          have hself2 := w32.self
          refine g_n12 (g_seq (g_asg (g_op (g_dget (g_v1 (g_c ?_))))))
          refine g_dgetS hself2 w32.sv ?_
          refine g_v5 ?_
          refine g_ixL (v := .int wi.n) w32.sent (isV_at hse') ?_
          refine g_n13 (g_seq (g_asg (g_tup (g_cons (g_op (g_v4 (g_op (g_v9 (g_c (g_ixT (by walk_at "hx") (show atI _ _ = some _ from rfl) (g_I0 (g_cons (g_v5 (g_cons (g_v13 (g_nil ?_))))))))))))))))
          refine g_tupN (by simp) (fun T1 H3 nT1 e3 hT1 => ?_)
          have w33 := w32.ex e3
          have hself33 := w33.self
          obtain ⟨wus, hwa, hwal⟩ := w33.wait
          have hcc93 := hcc92.ex e3
          refine g_n14 (g_seq (g_drop (g_bm (g_dget (g_v1 (g_c ?_))))))
          refine g_dgetS hself33 w33.wv ?_
          refine g_tyL (by walk_at "hx") (g_cons (g_op (g_v14 (g_tup (g_cons (g_v12 (g_cons (g_op (g_v9 (g_c (g_ixT (by walk_at "hx") (show atI _ _ = some _ from rfl) (g_cons (g_v11 (g_nil ?_))))))))))))))
          refine g_tupN (by simp) (fun T2 H4 nT2 e4 hT2 => ?_)

          refine g_catA (hT1.ex e4) hT2 (by simp) (fun T3 H5 e5 hT3 => ?_)
          have e35 := e4.trans e5
          have hwa5 := hwa.ex e35
          have w35 := w33.ex e35
          have hwul : wus.length ≤ 20000 := by
            rw [hwal.len]
            simp only [withW, List.length_append]
            omega
          refine g_nil (g_app (by walk_at "hx") (by walk_at "sz") ?_)
          have hv : LtAt ⟨lt.time + sp, (p : Nat), wi.n, idx (namesOf m) g, k, t.val wi.bx lt.load lt.time⟩ (.ref T3) H5 := ⟨T3, rfl, by rw [idx_at hin hk.nd]; exact hT3⟩
          have z := w35.addW hwa5 (hwal.imp fun _ _ q => q.tx (Tx.ex e35)) hv
          rw [withW_out] at z
          generalize upd H5 lm.wa (.lst (wus ++ [.ref T3])) = H6 at z
          have hself6 := z.1.self
          refine g_asg (g_op (g_op (g_dget (g_v1 (g_c ?_)))))
          refine g_dgetS hself6 z.1.sv ?_
          refine g_v5 ?_
          refine g_ixL (v := .int wi.n) z.1.sent (isV_at (by unfold withW; exact List.getElem?_set_self (by omega))) ?_
          refine g_c (g_I0 (g_gsub (g_dget (g_v1 (g_c ?_)))))
          refine g_dgetS hself6 z.1.sv ?_
          refine g_v5 ?_
          refine g_setI (j := p) z.1.sent (Evl.ixN_nat (by simp [isV, withW]; omega)) ?_
          rw [isV_set]
          have z2 := z.1.setS ((withW s p { wi with out := wi.out ++ [⟨lt.time + sp, (p : Nat), wi.n, idx (namesOf m) g, k, t.val wi.bx lt.load lt.time⟩] }).sent.set p (wi.n + 1))
          rw [withW_n] at z2
          exact ⟨⟨_, _, _, _, _, _, _, rfl⟩, w2.trans (((kp_ex (e2.trans (e3.trans e35))).trans z.2).trans z2.2), by rw [e]; unfold rowDo; exact z2.1⟩
        | ite x y z =>
          unfold RwAt at hR'
          obtain ⟨c9, v, p1, q1, us1, us2, rfl, hcc9, hu1, hp1, hx, hq1, hy⟩ := hR'
          unfold Row.ok at okr
          unfold Row.cnt at hct
          have dl := Row.deep_lt dpr
          obtain ⟨k1, k2, k3⟩ := okr
          refine g_n9 (g_ifs (g_tst (g_op (g_op (g_v9 (g_c (g_ixT (by walk_at "hx") (show atI _ _ = some _ from rfl) (g_c (g_eqS (g_k (g_ifD0 (by decide +kernel) (g_ifs (g_tst (g_op (g_op (g_v9 (g_c (g_ixT (by walk_at "hx") (show atI _ _ = some _ from rfl) (g_c (g_eqS (g_k (g_ifD0 (by decide +kernel) (g_ifs (g_tst (g_op (g_op (g_v9 (g_c (g_ixT (by walk_at "hx") (show atI _ _ = some _ from rfl) (g_c (g_eqS (g_k (g_ifD0 (by decide +kernel) (g_seq (g_asg (g_call (g_cons (g_op (g_v9 (g_c (g_ixT (by walk_at "hx") (show atI _ _ = some _ from rfl) (g_cons (g_v7 (g_cons (g_v6 (g_cons (g_v4 (g_nil ?_))))))))))))))))))))))))))))))))))))))))))))))))
          refine ⟨x, v, ba, wi.bx, lt.load, lt.time, rfl, hu1, k1.2.1, by rw [Wi.ok.names]; exact k1.1, hbx, Wi.ok.ok, hl0, fun H2 e2 => ?_⟩
          have tt2 := tt.trans (Tx.ex e2)
          have hm2 : MlAt m (.ref pc) H2 := hm.tx tt2
          have hl2 : LtAt lt (.ref la0) H2 := hl.tx tt2
          have w32 := w3.ex e2
          have hcc92 := hcc9.ex e2
          refine g_n11 (g_drop (g_call (g_cons (g_v0 (g_cons (g_v1 (g_cons (g_v2 (g_cons (g_op (g_v9 (g_op (g_c (g_cb (g_cons (g_op (g_v11 (g_c (g_neI (g_nil (g_intB (g_I0 ?_))))))))))))))))))))))
          by_cases ez : x.val wi.bx lt.load lt.time = 0
          · refine g_ixT (v := .ref q1) hcc92 (by
              have e2 : (3 - if (!decide (x.val wi.bx lt.load lt.time = 0)) = true then (1 : Int) else 0) = 3 := by simp [ez]
              exact (congrArg (atI _) e2).trans rfl) ?_
            refine g_nil ?_
            refine ⟨m, .ref pc, lm, s, p, lt, .ref la0, z, .ref q1, wi, bs, rfl, hm2, hk, hl2, hp, hpm, hb1, hb2, hb3, hb4, w32, Wi.ok, hl0, ⟨q1, us2, rfl, hq1.ex e2, hy.al.imp fun x u => RwAt.tx (Tx.ex e2) x u⟩, k3, by omega, by omega, by omega, fun H4 k4 d4 => ?_⟩
            exact ⟨⟨_, _, _, _, _, _, _, rfl⟩, w2.trans ((kp_ex e2).trans k4), by rw [e]; unfold rowDo; rw [if_pos ez]; exact d4⟩
          ·
            refine g_ixT (v := .ref p1) hcc92 (by
              have e2 : (3 - if (!decide (x.val wi.bx lt.load lt.time = 0)) = true then (1 : Int) else 0) = 2 := by simp [ez]
              exact (congrArg (atI _) e2).trans rfl) ?_
            refine g_nil ?_
            refine ⟨m, .ref pc, lm, s, p, lt, .ref la0, y, .ref p1, wi, bs, rfl, hm2, hk, hl2, hp, hpm, hb1, hb2, hb3, hb4, w32, Wi.ok, hl0, ⟨p1, us1, rfl, hp1.ex e2, hx.al.imp fun x u => RwAt.tx (Tx.ex e2) x u⟩, k2, by omega, by omega, by omega, fun H4 k4 d4 => ?_⟩
            exact ⟨⟨_, _, _, _, _, _, _, rfl⟩, w2.trans ((kp_ex e2).trans k4), by rw [e]; unfold rowDo; rw [if_neg ez]; exact d4⟩
      · obtain ⟨_, w2, w3⟩ := w1
        rw [hal.len, List.take_length] at w3
        exact hq H' ((kp_ex e1).trans w2) w3
end
end PM
/-! part F28 -/
namespace PM
open PySem PySem.Spec PyProof.Rows L2 PMH
open Evl (Ex)

local macro_rules | `(tactic| walk_at "ex") => `(tactic| first
  | with_reducible assumption
  | with_reducible exact Evl.Ex.refl _
  | (refine Evl.Ex.trans ?_ (by with_reducible assumption); walk_at "ex"))
local macro_rules | `(tactic| walk_at "hx") => `(tactic| first
  | with_reducible assumption
  | (refine At.ex (by with_reducible assumption) ?_; walk_at "ex")
  | (refine Fz.tx (by with_reducible assumption) ?_; walk_at "tx")
  | (refine TrAt.ex (by with_reducible assumption) ?_; walk_at "ex")
  | (refine MlAt.tx ?_ (by with_reducible assumption); walk_at "tx")
  | (refine PlAt.tx ?_ (by with_reducible assumption); walk_at "tx")
  | (refine LtAt.tx ?_ (by with_reducible assumption); walk_at "tx")
  | (refine GvAt.tx ?_ (by with_reducible assumption); walk_at "tx")
  | (refine WsAt.tx ?_ (by with_reducible assumption); walk_at "tx")
  | (refine RwAt.tx ?_ _ _ (by with_reducible assumption); walk_at "tx")
  | (refine RwsAt.tx ?_ _ _ (by with_reducible assumption); walk_at "tx")
  | (refine RuAt.tx ?_ (by with_reducible assumption); walk_at "tx")
  | (refine PrAt.tx ?_ (by with_reducible assumption); walk_at "tx"))
local macro_rules | `(tactic| walk_at "num") => `(tactic| first
  | with_reducible assumption
  | decide
  | exact Or.inl ⟨by omega, by omega⟩
  | exact Or.inr ⟨by omega, by omega⟩
  | (refine ⟨?_, ?_⟩ <;> omega)
  | (show (0 : Int) < _; omega))
local macro_rules | `(tactic| walk_at "tx") => `(tactic| first
  | with_reducible assumption
  | (refine Tx.ex ?_; walk_at "ex"))
local macro_rules | `(tactic| walk_at "sz") => `(tactic| first
  | with_reducible assumption
  | omega
  | (refine Evl.sz_of ?_; omega)
  | (refine Evl.sz_lt ?_; omega))
local macro_rules | `(tactic| walk_at "fl") => `(tactic| first
  | rfl
  | decide +kernel)

theorem set_self {α : Type} {xs : List α} {i : Nat} {x : α} (h : xs[i]? = some x) : xs.set i x = xs := by
  obtain ⟨hi, e⟩ := List.getElem?_eq_some_iff.mp h
  rw [← e]
  exact List.set_getElem_self hi
theorem withW_id {s : MS} {p : Nat} {b : Bx} {c n : Int} (h1 : s.boxes[p]? = some b) (h2 : s.drawn[p]? = some c) (h3 : s.sent[p]? = some n) : withW s p ⟨b, c, n, []⟩ = s := by
  unfold withW
  simp only [set_self h1, set_self h2, set_self h3, List.append_nil]
theorem g_neNilL {K : PySem.W.Frag} {H : Hp} {Q : VK} {a e : Addr} {ls : List Lt} {us : List V} (h : At H a (.lst us)) (al : Al LtAt ls us H) (kd : ∀ l ∈ ls, l.kind ∈ kinds) (he : At H e (.lst [])) (q : Q (.bl (!decide (ls = []))) H) : rNeD K (.ref a) (.ref e) H Q := by
  refine ⟨.list (ls.map encL), .list [], .lst h.sqL (al_dp al), .lst he.sqL .nil, (encLs_shaped kd).2, nil_shaped.2, ?_⟩
  cases ls with
  | nil => simpa [PyData.eqv, PyData.eqvAll] using q
  | cons l ls => simpa [PyData.eqv, PyData.eqvAll] using q
def optV : Option Bool → V
  | none => .non
  | some b => .bl b
section
variable {P : Program} {w : World} {K : PySem.W.Frag} {mg : Str → Option Value} {base : Heap}
def sp_law_done : Sp := fun vs H Q _ => ∃ (B : Hp) (m : List Pl) (plv : V) (lm : Lm) (s : MS) (j : Nat) (l : Lt) (lv : V), vs = [plv, .ref lm.m, lv] ∧ MlAt m plv H ∧ MlOk m ∧ LmAt lm s H ∧ MOk m s j ∧ j ≤ 100 ∧ LtAt l lv H ∧ l ∈ s.wait ∧ Ex B H ∧ (∀ a ∈ lm.R, B a = none) ∧
  ∀ lm' H', lm'.m = lm.m → Ex B H' → (∀ a ∈ lm'.R, B a = none) → Tx H H' → LmAt lm' (doneOf m s l) H' → Q .non H'
abbrev N_law_done : List Str := ["_law_places", "_law_m", "_law_letter", "_law_other"]
theorem sc_law_done : FnScope N_law_done ["_law_places", "_law_m", "_law_letter"] (defScope s_law_done) := ⟨rfl, rfl, rfl, by decide +kernel, rfl, by decide +kernel, by decide +kernel⟩
theorem ok_law_done (T : TX w K mg)  : Fn P w K mg base CX0 (11) "_law_done" ["_law_places", "_law_m", "_law_letter"] (sp_law_done) := by
  have f_law_rule := ok_law_rule (P := P) (base := base) T
  have f_law_rows_done := ok_law_rows_done (P := P) (base := base) T 4
  obtain ⟨fd, F⟩ := T.d_law_done
  refine mk_fn F T.g_law_done sc_law_done (fun vs H Q E h => by obtain ⟨_, _, _, _, _, _, _, _, rfl, _⟩ := h; rfl) (fun _ _ _ _ _ _ us hl => match us, hl with | [_, _, _], _ => rfl) (fun cdv A outer s H vs Q E hr h => ?_)
  obtain ⟨B, m, plv, lm, s, j, l, lv, rfl, hm, hk, hlm, ho, hj, hl, hlw, hB, hfr, hq⟩ := h
  have hu := hu_of hr
  refine ⟨(tSeq (sDPut (tVar 1) (tC (.str "waiting")) (tLc (iList K (tDGet (tVar 1) (tC (.str "waiting")))) (gName 3) (tTest (tOp (rNeD K) (tVar 3) (tVar 2))) (tVar 3) [3])) (tSeq (tDrop (tCall (sp_law_rows_done 4) [] E0 (tCons (tVar 0) (tCons (tVar 1) (tCons (tVar 2) (tCons (tCall sp_law_rule [] E0 (tCons (tOp (rIxT K) (tVar 0) (tOp (rIxT K) (tVar 2) (tC (.int 3)))) (tCons (tOp (rIxT K) (tVar 2) (tC (.int 4))) tNil))) tNil)))))) (sDPut (tVar 1) (tC (.str "waiting")) (tCB (rSortLt K) (tCons (tDGet (tVar 1) (tC (.str "waiting"))) tNil))))),
      (pss_cons (ps_dput hu (pv 1) pe_str (pe_lc (own := [("_law_other", 3)]) (wi := (iList K (tDGet (tVar 1) (tC (.str "waiting"))))) (g := (gName 3)) (tt := (tTest (tOp (rNeD K) (tVar 3) (tVar 2)))) (te := (tVar 3)) rfl sc_law_done.nd (pi_list (pe_dget hu (pv 1) pe_str (fun _ _ => rfl))) (blkOk_by (N := N_law_done) (sc := defScope s_law_done) (by decide +kernel)) (fun _ _ _ _ _ => (pg_name (i := 3) sc_law_done.nd rfl (Or.inl rfl))) (fun _ _ _ _ _ => (pts_one (pt_cmpR (op_neD hr.units) (pv 3) (pv 2) (nomark _)))) (fun _ _ _ _ _ => (pv 3))) rfl)
      (pss_cons (ps_expr (f_law_rows_done.ex.elim fun _ q => q.elim fun _ q => pe_call q.1 (hr.mono (by omega)) (by rfl) q.2.1 q.2.2.1 q.2.2.2 .nil pass0 (pa_cons (pv 0) (pa_cons (pv 1) (pa_cons (pv 2) (pa_cons (f_law_rule.ex.elim fun _ q => q.elim fun _ q => pe_call q.1 (hr.mono (by omega)) (by rfl) q.2.1 q.2.2.1 q.2.2.2 .nil pass0 (pa_cons (pe_ix ix_tup (pv 0) (pe_ix ix_tup (pv 2) pe_int (fun _ _ => rfl)) (fun _ _ => rfl)) (pa_cons (pe_ix ix_tup (pv 2) pe_int (fun _ _ => rfl)) pa_nil))) pa_nil))))))
      (pss_one (ps_dput hu (pv 1) pe_str (pe_callB (cr_sortLt hr.units) (by rfl) T.b_sorted bt_sorted (pa_cons (pe_dget hu (pv 1) pe_str (fun _ _ => rfl)) pa_nil)) rfl)))), ?_⟩
  refine g_start (σ' := [some _, some _, some _, none]) rfl ?_
  obtain ⟨p, pl, b, c, n, e1, e2, e3, e4, e5, e6, ew, wok, hc, hn, hl0, hpl, r1, r2, r3⟩ := ho.here hk hlw
  obtain ⟨la, rfl, hla⟩ := id hl
  obtain ⟨pc, pvs, rfl, hpc, hpal⟩ := id hm
  have hself := hlm.self
  have hkd := (ho.wt l hlw).2.1
  have hwl := ho.wl
  have hbl := ho.bl
  have hdl := ho.dl
  have hsl := ho.sl
  have hpm := (List.getElem?_eq_some_iff.mp e3).1
  obtain ⟨ws, hw, hwal⟩ := hlm.wait
  have mR : lm.m ∈ lm.R := by simp [Lm.R]
  have Bm := hfr _ mR
  refine g_seq (g_dput (g_lcL (g_dget (g_v1 (g_c ?_)))))
  refine g_dgetS hself hlm.wv ?_
  refine lc_pureL (R := LtAt) (S := LtAt) (ds := s.wait) (p := fun o => !decide (o = l)) (f := id) hw hwal (by omega) (fun _ _ _ e h => h.tx (Tx.ex e)) (fun _ _ _ _ t h => h.tx t) (fun o hm u H1 e1 hR Y N hY hN => ?_) (fun D acc H1 n1 x1 hD hacc => ?_)
  · have hl1 := hl.tx (Tx.ex e1)
    have ok1 := ho.wt o hm
    refine g_n3 (And.intro rfl (g_tst (g_op (g_v3 (g_v2 ?_)))))
    refine g_neLt hR hl1 ok1.2.1 hkd ?_
    by_cases e : o = l
    · subst e
      refine g_k (g_ifN0 (rfl) ?_)
      exact hN _ (Evl.Ex.refl _) (by simp)
    ·
      refine g_k (g_ifN1 (e) (g_v3 ?_))
      exact hY _ _ (Evl.Ex.refl _) (by simp [e]) hR
  · have hself1 := hself.ex x1
    rw [List.map_id] at hacc
    have lf : (s.wait.filter fun o => !decide (o = l)).length ≤ s.wait.length := List.length_filter_le _ _
    have nD : D ∉ lm.R := fun z => (hlm.nn D z) n1
    refine g_v1 (g_c ?_)
    refine g_dputS hself1 (by exact Evl.sz_lt (by simp [lmK])) ?_
    rw [lmK_wait]
    refine g_upd (fun H2 k2 h2 => ?_)
    have L1 := (hlm.ex x1).newW hD hacc nD k2 h2
    have t2 : Tx H H2 := (Tx.ex x1).trans ((hlm.ex x1).tx1 mR k2)
    have B2 : Ex B H2 := ex_kp (hB.trans x1) k2 (by simpa using Bm)
    have hla2 := hla.tx t2
    obtain ⟨u, hu1, hu2⟩ := hpal.at e3
    have hpc2 := hpc.tx t2
    refine g_seq (g_drop (g_call (g_cons (g_v0 (g_cons (g_v1 (g_cons (g_v2 (g_cons (g_call (g_cons (g_op (g_v0 (g_op (g_v2 (g_c (g_ixT (by walk_at "hx") (show atI _ _ = some _ from rfl) ?_)))))))))))))))))
    refine g_ixT hpc2 (by rw [e1]; exact at_nat hu1) ?_
    refine g_cons (g_op (g_v2 (g_c (g_ixT (by walk_at "hx") (show atI _ _ = some _ from rfl) (g_nil ?_)))))
    refine ⟨pl, u, l.kind, rfl, hu2.tx t2, hpl.rnd, by have := hpl.rfew; omega, fun v H3 x3 hv => ?_⟩
    refine g_nil ?_
    have t3 := t2.trans (Tx.ex x3)
    refine ⟨m, .ref pc, { lm with wa := D }, { s with wait := s.wait.filter fun o => !decide (o = l) }, p, l, .ref la, ruleOf pl.rules l.kind, v, ⟨b, c, n, []⟩, pl.boxes.map (·.1), rfl, hm.tx t3, hk, hl.tx t3, e1, hpm, hbl, hdl, hsl, by show (s.wait.filter _).length ≤ 5000; omega, by rw [withW_id (s := { s with wait := s.wait.filter fun o => !decide (o = l) }) e4 e5 e6]; exact L1.ex x3, wok, hl0, hv, r1, by omega, by show c + _ ≤ 9000; omega, by show n + _ ≤ 9000; omega, fun H4 k4 d4 => ?_⟩
    have W := rowsDo_ok (p := p) (t := l.time) hl0 (ruleOf pl.rules l.kind) ⟨b, c, n, []⟩ wok r1
    rw [← ew] at d4 W
    have fr1 : ∀ a ∈ ({ lm with wa := D } : Lm).R, B a = none := fun a ha => by
      simp only [Lm.R, List.mem_cons] at ha hfr
      rcases ha with rfl | rfl | rfl | rfl | rfl | ha
      · exact Bm
      · exact hfr _ (by simp)
      · exact fresh_back (hB) n1
      · exact hfr _ (by simp)
      · exact hfr _ (by simp)
      · exact hfr _ (by simp [ha])
    have t4 := t3.trans ((L1.ex x3).txk k4)
    have B4 : Ex B H4 := ex_kp (B2.trans x3) k4 fr1
    obtain ⟨ws4, hw4, hwal4⟩ := d4.wait
    have hself4 : At H4 lm.m (.dK (lmK { lm with wa := D })) := d4.self
    have ol := W.ok.few
    have on := W.n2
    simp only at on
    refine g_dput (g_cb (g_cons (g_dget (g_v1 (g_c ?_)))))
    refine g_dgetS hself4 d4.wv ?_
    refine g_nil ?_
    refine g_sortLt hw4 hwal4 (by simp only [withW, List.length_append]; omega) (fun S H5 us5 nS x5 hS hal5 => ?_)
    have hself5 := hself4.ex x5
    refine g_v1 (g_c ?_)
    refine g_dputS hself5 (by exact Evl.sz_lt (by simp [lmK])) ?_
    rw [lmK_wait]
    refine g_upd (fun H6 k6 h6 => ?_)
    have nS : S ∉ ({ lm with wa := D } : Lm).R := fun z => (d4.nn S z) nS
    have mR4 : lm.m ∈ ({ lm with wa := D } : Lm).R := by simp [Lm.R]
    have L2 := (d4.ex x5).newW hS hal5 nS k6 h6
    have ed : doneOf m s l = { withW { s with wait := s.wait.filter fun o => !decide (o = l) } p (workOf m s l) with wait := sortL (withW { s with wait := s.wait.filter fun o => !decide (o = l) } p (workOf m s l)).wait } := by
      unfold doneOf afterOf
      rw [e2]
      rfl
    rw [← ed] at L2
    have fS : B S = none := fresh_back B4 (by assumption)
    refine hq { lm with wa := S } H6 rfl (ex_kp (B4.trans x5) k6 (by simpa using Bm)) (fun a ha => ?_) (t4.trans ((Tx.ex x5).trans ((d4.ex x5).tx1 mR4 k6))) L2
    simp only [Lm.R, List.mem_cons] at ha hfr
    rcases ha with rfl | rfl | rfl | rfl | rfl | ha
    · exact Bm
    · exact hfr _ (by simp)
    · exact fS
    · exact hfr _ (by simp)
    · exact hfr _ (by simp)
    · exact hfr _ (by simp [ha])
def sp_law_is_so : Sp := fun vs H Q _ => ∃ (m : List Pl) (plv : V) (lm : Lm) (s : MS) (j : Nat) (ws : Nm × Tr) (wv : V) (t : Int), vs = [plv, .ref lm.m, wv, .int t] ∧ MlAt m plv H ∧ MlOk m ∧ LmAt lm s H ∧ MOk m s j ∧ WsAt ws wv H ∧ WsOk m ws ∧ Ret (.bl (isSo m ws s.boxes t)) H Q
abbrev N_law_is_so : List Str := ["_law_places", "_law_m", "_law_wish_here", "_law_time", "_law_place"]
theorem sc_law_is_so : FnScope N_law_is_so ["_law_places", "_law_m", "_law_wish_here", "_law_time"] (defScope s_law_is_so) := ⟨rfl, rfl, rfl, by decide +kernel, rfl, by decide +kernel, by decide +kernel⟩
theorem ok_law_is_so (T : TX w K mg)  : Fn P w K mg base CX0 (6) "_law_is_so" ["_law_places", "_law_m", "_law_wish_here", "_law_time"] (sp_law_is_so) := by
  have f_law_value := ok_law_value (P := P) (base := base) T 3
  obtain ⟨fd, F⟩ := T.d_law_is_so
  refine mk_fn F T.g_law_is_so sc_law_is_so (fun vs H Q E h => by obtain ⟨_, _, _, _, _, _, _, _, rfl, _⟩ := h; rfl) (fun _ _ _ _ _ _ us hl => match us, hl with | [_, _, _, _], _ => rfl) (fun cdv A outer s H vs Q E hr h => ?_)
  obtain ⟨m, plv, lm, s, j, ws, wv, t, rfl, hm, hk, hlm, ho, hw, hok, hq⟩ := h
  have hu := hu_of hr
  refine ⟨(tSeq (tAsg (tBM K "list" (rIndex K) (tLc (iTup K (tVar 0)) (gName 4) tYes (tOp (rIxT K) (tVar 4) (tC (.int 0))) [4]) (tCons (tOp (rIxT K) (tVar 2) (tC (.int 0))) tNil)) (gName 4)) (tRet (tOp rNe (tCall (sp_law_value 3) [] E0 (tCons (tOp (rIxT K) (tVar 2) (tC (.int 1))) (tCons (tOp (rIxL K) (tDGet (tVar 1) (tC (.str "boxes"))) (tVar 4)) (tCons (tC (.int 0)) (tCons (tVar 3) tNil))))) (tC (.int 0))))),
      (pss_cons (ps_set (i := 4) sc_law_is_so.nd rfl (Or.inl rfl) (pe_bm PySem.F.plainAttrs_list PySem.F.slot_list_index PySem.F.type_list_index mt_index (pe_lc (own := [("_law_place", 4)]) (wi := (iTup K (tVar 0))) (g := (gName 4)) (tt := tYes) (te := (tOp (rIxT K) (tVar 4) (tC (.int 0)))) rfl sc_law_is_so.nd (pi_tup (pv 0)) (blkOk_by (N := N_law_is_so) (sc := defScope s_law_is_so) (by decide +kernel)) (fun _ _ _ _ _ => (pg_name (i := 4) sc_law_is_so.nd rfl (Or.inl rfl))) (fun _ _ _ _ _ => pts_nil) (fun _ _ _ _ _ => (pe_ix ix_tup (pv 4) pe_int (fun _ _ => rfl)))) (pa_cons (pe_ix ix_tup (pv 2) pe_int (fun _ _ => rfl)) pa_nil)))
      (pss_one (ps_ret (pe_cmpR op_ne (f_law_value.ex.elim fun _ q => q.elim fun _ q => pe_call q.1 (hr.mono (by omega)) (by rfl) q.2.1 q.2.2.1 q.2.2.2 .nil pass0 (pa_cons (pe_ix ix_tup (pv 2) pe_int (fun _ _ => rfl)) (pa_cons (pe_ix ix_list (pe_dget hu (pv 1) pe_str (fun _ _ => rfl)) (pv 4) (fun _ _ => rfl)) (pa_cons pe_int (pa_cons (pv 3) pa_nil))))) pe_int (nomark _))))), ?_⟩
  refine g_start (σ' := [some _, some _, some _, some _, none]) rfl ?_
  obtain ⟨pc, pvs, rfl, hpc, hpal⟩ := id hm
  obtain ⟨c, u, rfl, hc, hu1⟩ := hw
  obtain ⟨i, pl, hi, en, hto⟩ := hok
  have hpl := hk.pl pl (List.mem_of_getElem? hi)
  have hin := names_at hi
  rw [en] at hin
  have hm4 := hk.most
  have hbl := ho.bl
  have him := (List.getElem?_eq_some_iff.mp hi).1
  obtain ⟨b, hbi⟩ : ∃ b : Bx, s.boxes[i]? = some b := ⟨_, List.getElem?_eq_getElem (show i < s.boxes.length by omega)⟩
  obtain ⟨ba, hba⟩ : ∃ a, lm.bs[i]? = some a := ⟨_, List.getElem?_eq_getElem (show i < lm.bs.length by rw [hlm.bl]; omega)⟩
  have hbx := hlm.bx i ba b hba hbi
  obtain ⟨hnm, hbo⟩ := ho.bx i b pl hbi hi
  refine g_seq (g_asg (g_bm (g_lcT (g_v0 ?_))))
  refine lc_mapT (R := PlAt) (ds := m) (h := fun p => .str p.name) hpc hpal (by have := hpal.len; omega) (fun r u H1 e h => h.tx (Tx.ex e)) (fun r hm u H2 e2 hR Y N hY => ?_) (fun N1 H1 nN e1 hN => ?_)
  · obtain ⟨d, x, y, rfl, hd, _, _⟩ := hR
    refine g_n4 (And.intro rfl (g_yes (g_iteT (g_op (g_v4 (g_c (g_ixT (by walk_at "hx") (show atI _ _ = some _ from rfl) ?_)))))))
    exact hY _ (Evl.Ex.refl _)
  · have hN : At H1 N1 (.lst (sV (namesOf m))) := by unfold namesOf; rw [sV_map]; exact hN
    have hc1 := hc.ex e1
    have hself1 := hlm.self.ex e1
    refine g_tyL (by walk_at "hx") (g_cons (g_op (g_v2 (g_c (g_ixT (by walk_at "hx") (show atI _ _ = some _ from rfl) (g_nil ?_))))))
    refine g_idxN hN hin hk.nd ?_
    refine g_n4 (g_ret (g_op (g_call (g_cons (g_op (g_v2 (g_c (g_ixT (by walk_at "hx") (show atI _ _ = some _ from rfl) (g_cons (g_op (g_dget (g_v1 (g_c ?_)))))))))))))
    refine g_dgetS hself1 hlm.bv ?_
    refine g_v4 ?_
    refine g_ixL (v := .ref ba) (hlm.boxes.ex e1) (at_nat (by rw [List.getElem?_map, hba]; rfl)) ?_
    refine g_cons (g_c (g_cons (g_v3 (g_nil ?_))))
    refine ⟨ws.2, u, ba, b, 0, t, rfl, hu1.ex e1, hto.2.1, by rw [hnm]; exact hto.1, hbx.ex e1, hbo, ⟨by omega, by omega⟩, fun H2 e2 => ?_⟩
    refine g_c (g_neI ?_)
    have e : isSo m ws s.boxes t = !decide (ws.2.val b 0 t = 0) := by
      unfold isSo
      rw [idx_at hin hk.nd, List.getD_eq_getElem?_getD, hbi]
      rfl
    rw [← e]
    exact hq _ (e1.trans e2)
def sp_law_shown : Sp := fun vs H Q _ => ∃ (B : Hp) (m : List Pl) (plv : V) (lm : Lm) (s : MS) (ws : Nm × Tr) (wv : V) (time : Int), vs = [plv, .ref lm.m, .int time, wv] ∧ MlAt m plv H ∧ MlOk m ∧ LmAt lm s H ∧ MOk m s 0 ∧ WsAt ws wv H ∧ WsOk m ws ∧ Ex B H ∧ (∀ a ∈ lm.R, B a = none) ∧
  ∀ H', Ex B H' → Q (optV (shownOf m ws time s)) H'
abbrev N_law_shown : List Str := ["_law_places", "_law_m", "_law_time", "_law_wish_here", "_law_found", "_law_many", "_law_letter"]
theorem sc_law_shown : FnScope N_law_shown ["_law_places", "_law_m", "_law_time", "_law_wish_here"] (defScope s_law_shown) := ⟨rfl, rfl, rfl, by decide +kernel, rfl, by decide +kernel, by decide +kernel⟩
theorem ok_law_shown (T : TX w K mg)  : Fn P w K mg base CX0 (12) "_law_shown" ["_law_places", "_law_m", "_law_time", "_law_wish_here"] (sp_law_shown) := by
  have f_law_is_so := ok_law_is_so (P := P) (base := base) T
  have f_law_done := ok_law_done (P := P) (base := base) T
  obtain ⟨fd, F⟩ := T.d_law_shown
  refine mk_fn F T.g_law_shown sc_law_shown (fun vs H Q E h => by obtain ⟨_, _, _, _, _, _, _, _, rfl, _⟩ := h; rfl) (fun _ _ _ _ _ _ us hl => match us, hl with | [_, _, _, _], _ => rfl) (fun cdv A outer s H vs Q E hr h => ?_)
  obtain ⟨B, m, plv, lm, s, ws, wv, time, rfl, hm, hk, hlm, ho, hw, hok, hB, hfr, hq⟩ := h
  have hu := hu_of hr
  refine ⟨(tSeq (tAsg (tCall sp_law_is_so [] E0 (tCons (tVar 0) (tCons (tVar 1) (tCons (tVar 3) (tCons (tC (.int 0)) tNil))))) (gName 4)) (tSeq (tAsg (tC (.int 0)) (gName 5)) (tSeq (tWhile (tAnd (tTest (tOp (rNeD K) (tDGet (tVar 1) (tC (.str "waiting"))) (tLst tNil))) (tTest (tOp rLeI (tOp (rIxT K) (tOp (rIxL K) (tDGet (tVar 1) (tC (.str "waiting"))) (tC (.int 0))) (tC (.int 0))) (tVar 2)))) (tSeq (tIfS (tTest (tOp rEq (tVar 5) (tC (.int 60)))) (tRet (tC .non)) tNext) (tSeq (tAsg (tOp (rIxL K) (tDGet (tVar 1) (tC (.str "waiting"))) (tC (.int 0))) (gName 6)) (tSeq (tDrop (tCall sp_law_done [] E0 (tCons (tVar 0) (tCons (tVar 1) (tCons (tVar 6) tNil))))) (tSeq (tAsg (tOp rAddI (tVar 5) (tC (.int 1))) (gName 5)) (tAsg (tOrV (tVar 4) (tCall sp_law_is_so [] E0 (tCons (tVar 0) (tCons (tVar 1) (tCons (tVar 3) (tCons (tOp (rIxT K) (tVar 6) (tC (.int 0))) tNil)))))) (gName 4))))))) (tRet (tVar 4))))),
      (pss_cons (ps_set (i := 4) sc_law_shown.nd rfl (Or.inl rfl) (f_law_is_so.ex.elim fun _ q => q.elim fun _ q => pe_call q.1 (hr.mono (by omega)) (by rfl) q.2.1 q.2.2.1 q.2.2.2 .nil pass0 (pa_cons (pv 0) (pa_cons (pv 1) (pa_cons (pv 3) (pa_cons pe_int pa_nil))))))
      (pss_cons (ps_set (i := 5) sc_law_shown.nd rfl (Or.inl rfl) pe_int)
      (pss_cons (ps_while PassesOwn.never (PW.pt (pw_and (pt_cmpR (op_neD hr.units) (pe_dget hu (pv 1) pe_str (fun _ _ => rfl)) (pe_lst pa_nil) (nomark _)) (pw_and1 (pt_cmpR op_le (pe_ix ix_tup (pe_ix ix_list (pe_dget hu (pv 1) pe_str (fun _ _ => rfl)) pe_int (fun _ _ => rfl)) pe_int (fun _ _ => rfl)) (pv 2) (nomark _))))) (pss_cons (ps_if (pt_cmpR op_eq (pv 5) pe_int (nomark _)) (pss_one (ps_ret pe_non)) pss_nil)
      (pss_cons (ps_set (i := 6) sc_law_shown.nd rfl (Or.inl rfl) (pe_ix ix_list (pe_dget hu (pv 1) pe_str (fun _ _ => rfl)) pe_int (fun _ _ => rfl)))
      (pss_cons (ps_expr (f_law_done.ex.elim fun _ q => q.elim fun _ q => pe_call q.1 (hr.mono (by omega)) (by rfl) q.2.1 q.2.2.1 q.2.2.2 .nil pass0 (pa_cons (pv 0) (pa_cons (pv 1) (pa_cons (pv 6) pa_nil)))))
      (pss_cons (ps_set (i := 5) sc_law_shown.nd rfl (Or.inl rfl) (pe_op op_add (pv 5) pe_int))
      (pss_one (ps_set (i := 4) sc_law_shown.nd rfl (Or.inl rfl) (pe_or (pv 4) (pe_one (f_law_is_so.ex.elim fun _ q => q.elim fun _ q => pe_call q.1 (hr.mono (by omega)) (by rfl) q.2.1 q.2.2.1 q.2.2.2 .nil pass0 (pa_cons (pv 0) (pa_cons (pv 1) (pa_cons (pv 3) (pa_cons (pe_ix ix_tup (pv 6) pe_int (fun _ _ => rfl)) pa_nil))))))))))))))
      (pss_one (ps_ret (pv 4)))))), ?_⟩
  refine g_start (σ' := [some _, some _, some _, some _, none, none, none]) rfl ?_
  generalize hres : shownOf m ws time s = res at hq
  refine g_seq (g_asg (g_call (g_cons (g_v0 (g_cons (g_v1 (g_cons (g_v3 (g_cons (g_c (g_nil ?_)))))))))))
  refine ⟨m, plv, lm, s, 0, ws, wv, 0, rfl, hm, hk, hlm, ho, hw, hok, fun H1 e1 => ?_⟩
  refine g_n4 (g_seq (g_asg (g_c (g_n5 (g_seq ?_)))))
  refine g_while (fun k σ' H' => ∃ (lm' : Lm) (s' : MS) (f : Bool) (x : Option V), σ' = [some plv, some (.ref lm.m), some (.int time), some wv, some (.bl f), some (.int (60 - (k : Int))), x] ∧ lm'.m = lm.m ∧ Ex B H' ∧ (∀ a ∈ lm'.R, B a = none) ∧ Tx H H' ∧ LmAt lm' s' H' ∧ MOk m s' (60 - k) ∧ k ≤ 60 ∧ showRun m ws time k s' f = res)
    ⟨60, lm, s, _, _, rfl, rfl, hB.trans e1, hfr, Tx.ex e1, hlm.ex e1, by simpa using ho, by omega, hres⟩ (fun k σ' H' w1 => ?_)
  obtain ⟨lm', s', f, x, rfl, em, hB', hfr', tt, hlm', hmk, hk60, hrun⟩ := w1
  have hself := hlm'.self
  rw [em] at hself
  obtain ⟨wus, hwa, hwal⟩ := hlm'.wait
  have kd : ∀ l ∈ s'.wait, l.kind ∈ kinds := fun l m => (hmk.wt l m).2.1
  refine g_and (g_tst (g_op (g_dget (g_v1 (g_c ?_)))))
  refine g_dgetS hself hlm'.wv ?_
  refine g_lst (g_nil ?_)
  refine g_lstN (by simp) (fun e H4 n4 e4 he => ?_)
  have hself4 := hself.ex e4
  refine g_neNilL (hwa.ex e4) (hwal.imp fun _ _ z => z.tx (Tx.ex e4)) kd he ?_
  cases hwt : s'.wait with
  | nil =>
    have hf : some f = res := by
      cases k <;> simpa [showRun, hwt] using hrun
    subst hf
    refine g_k (g_ifN0 (rfl) (g_iteF (g_ret (g_v4 ?_))))
    exact hq _ (hB'.trans e4)
  | cons l rest =>
    rw [hwt] at hwal
    obtain ⟨lu, lus, rfl, hlu, hlus⟩ := hwal
    obtain ⟨lc, rfl, hlc⟩ := id hlu
    have hlw : l ∈ s'.wait := by rw [hwt]; exact List.mem_cons_self
    have hlc4 := hlc.ex e4
    refine g_k (g_ifN1 (by simp) (g_tst (g_op (g_op (g_op (g_dget (g_v1 (g_c ?_))))))))
    refine g_dgetS hself4 hlm'.wv ?_
    refine g_c ?_
    refine g_ixL (hwa.ex e4) at_zero ?_
    refine g_c (g_ixT (by walk_at "hx") (show atI _ _ = some _ from rfl) (g_v2 (g_I0 (g_k ?_))))
    by_cases hle : l.time ≤ time
    · cases k with
      | zero =>
        simp only [showRun, hwt, if_pos hle] at hrun
        subst hrun
        refine g_ifD1 (hle) (g_turn (g_seq (g_ifs (g_tst (g_op (g_v5 (g_c (g_eqI (g_k (g_ifD1 (by simp) (g_ret (g_c ?_))))))))))))
        exact hq _ (hB'.trans e4)
      | succ k =>
        simp only [showRun, hwt, if_pos hle] at hrun
        refine g_ifD1 (hle) (g_turn (g_seq (g_ifs (g_tst (g_op (g_v5 (g_c (g_eqI (g_k (g_ifD0 (by omega) (g_next (g_seq (g_asg (g_op (g_dget (g_v1 (g_c ?_)))))))))))))))))
        refine g_dgetS hself4 hlm'.wv ?_
        refine g_c ?_
        refine g_ixL (hwa.ex e4) at_zero ?_
        refine g_n6 (g_seq (g_drop (g_call (g_cons (g_v0 (g_cons (g_v1 (g_cons (g_v6 (g_nil ?_))))))))))
        have hmo2 := hmk.done hk hlw
        have tt4 := tt.trans (Tx.ex e4)
        refine ⟨B, m, plv, lm', s', 60 - (k + 1), l, .ref lc, by rw [em], hm.tx tt4, hk, hlm'.ex e4, hmk, by omega, hlu.tx (Tx.ex e4), hlw, hB'.trans e4, hfr', fun lm5 H5 em5 hB5 hfr5 t5 hlm5 => ?_⟩
        have hlc5 := hlc4.tx t5
        have tt5 := tt4.trans t5
        refine g_seq (g_asg (g_op (g_v5 (g_c (g_I0 (g_n5 (g_asg (g_orV (g_v4 (g_k ?_))))))))))
        have cnt : (60 - ((k + 1 : Nat) : Int) + 1) = 60 - (k : Int) := by omega
        have cnt2 : 60 - (k + 1) + 1 = 60 - k := by omega
        rw [cnt2] at hmo2
        rw [cnt]
        cases f with
        | true =>
          refine g_iteT (g_n4 ?_)
          exact ⟨k, by omega, lm5, _, true, _, rfl, em5.trans em, hB5, hfr5, tt5, hlm5, hmo2, by omega, by simpa using hrun⟩
        | false =>
          refine g_iteF (g_call (g_cons (g_v0 (g_cons (g_v1 (g_cons (g_v3 (g_cons (g_op (g_v6 (g_c (g_ixT (by walk_at "hx") (show atI _ _ = some _ from rfl) (g_nil ?_)))))))))))))
          refine ⟨m, plv, lm5, doneOf m s' l, 60 - k, ws, wv, l.time, by rw [em5, em], hm.tx tt5, hk, hlm5, hmo2, hw.tx tt5, hok, fun H6 e6 => ?_⟩
          refine g_n4 ?_
          exact ⟨k, by omega, lm5, _, _, _, rfl, em5.trans em, hB5.trans e6, hfr5, tt5.trans (Tx.ex e6), hlm5.ex e6, hmo2, by omega, by simpa using hrun⟩
    ·
      refine g_ifD0 (hle) (g_ret (g_v4 ?_))
      have hf : some f = res := by
        cases k <;> simpa [showRun, hwt, hle] using hrun
      subst hf
      exact hq _ (hB'.trans e4)
end
end PM
/-! part F31 -/
namespace PM
open PySem PySem.Spec PyProof.Rows L2 PMH
open Evl (Ex)

local macro_rules | `(tactic| walk_at "ex") => `(tactic| first
  | with_reducible assumption
  | with_reducible exact Evl.Ex.refl _
  | (refine Evl.Ex.trans ?_ (by with_reducible assumption); walk_at "ex"))
local macro_rules | `(tactic| walk_at "hx") => `(tactic| first
  | with_reducible assumption
  | (refine At.ex (by with_reducible assumption) ?_; walk_at "ex")
  | (refine Fz.tx (by with_reducible assumption) ?_; walk_at "tx")
  | (refine TrAt.ex (by with_reducible assumption) ?_; walk_at "ex")
  | (refine MlAt.tx ?_ (by with_reducible assumption); walk_at "tx")
  | (refine PlAt.tx ?_ (by with_reducible assumption); walk_at "tx")
  | (refine LtAt.tx ?_ (by with_reducible assumption); walk_at "tx")
  | (refine GvAt.tx ?_ (by with_reducible assumption); walk_at "tx")
  | (refine WsAt.tx ?_ (by with_reducible assumption); walk_at "tx")
  | (refine RwAt.tx ?_ _ _ (by with_reducible assumption); walk_at "tx")
  | (refine RwsAt.tx ?_ _ _ (by with_reducible assumption); walk_at "tx")
  | (refine RuAt.tx ?_ (by with_reducible assumption); walk_at "tx")
  | (refine PrAt.tx ?_ (by with_reducible assumption); walk_at "tx"))
local macro_rules | `(tactic| walk_at "num") => `(tactic| first
  | with_reducible assumption
  | decide
  | exact Or.inl ⟨by omega, by omega⟩
  | exact Or.inr ⟨by omega, by omega⟩
  | (refine ⟨?_, ?_⟩ <;> omega)
  | (show (0 : Int) < _; omega))
local macro_rules | `(tactic| walk_at "tx") => `(tactic| first
  | with_reducible assumption
  | (refine Tx.ex ?_; walk_at "ex"))
local macro_rules | `(tactic| walk_at "sz") => `(tactic| first
  | with_reducible assumption
  | omega
  | (refine Evl.sz_of ?_; omega)
  | (refine Evl.sz_lt ?_; omega))
local macro_rules | `(tactic| walk_at "fl") => `(tactic| first
  | rfl
  | decide +kernel)

section
variable {K : PySem.W.Frag} {σ : L2.St} {H : Hp} {ta : TE} {R : Bool → Hp → Prop}
def TrK (K : PySem.W.Frag) (R : Bool → Hp → Prop) : VK := fun x H' => ∃ k, TruV K x H' k ∧ R k H'
theorem g_tru (h : ta σ H (TrK K R)) : tTru K ta σ H R := h
theorem g_trB {b : Bool} (h : R b H) : TrK K R (.bl b) H := ⟨b, rfl, h⟩
theorem g_trN (h : R false H) : TrK K R .non H := ⟨false, rfl, h⟩
end
/-- what the law's own defs are given -/
structure LwA (m : List Pl) (plv : V) (g : Addr) (gs : List Gv) (us : List V) (ws : Nm × Tr) (wv : V) (H : Hp) : Prop where
  hm : MlAt m plv H
  hk : MlOk m
  hg : At H g (.lst us)
  hal : Al GvAt gs us H
  hok : ∀ x ∈ gs, GvOk m x
  few : gs.length ≤ 8
  hw : WsAt ws wv H
  hwo : WsOk m ws
theorem LwA.ex {m : List Pl} {plv : V} {g : Addr} {gs : List Gv} {us : List V} {ws : Nm × Tr} {wv : V} {H H' : Hp} (h : LwA m plv g gs us ws wv H) (e : Ex H H') : LwA m plv g gs us ws wv H' :=
  ⟨h.hm.tx (Tx.ex e), h.hk, h.hg.ex e, h.hal.imp fun _ _ z => z.tx (Tx.ex e), h.hok, h.few, h.hw.tx (Tx.ex e), h.hwo⟩
theorem LwA.mo {m : List Pl} {plv : V} {g : Addr} {gs : List Gv} {us : List V} {ws : Nm × Tr} {wv : V} {H : Hp} (h : LwA m plv g gs us ws wv H) {ns : List Nat} (hl : ∀ n ∈ ns, n < gs.length) (n8 : ns.length ≤ 8) : MOk m (startOf m (ltsOf m gs ns)) 0 :=
  MOk.start h.hk (lts_ok h.hok hl) (by unfold ltsOf; rw [List.length_map]; exact n8)
def cutL (sh : List Nat → Option Bool) (n : Nat) : Option (List Nat) := match sh (List.range n) with
  | none => none
  | some false => some (List.range n)
  | some true => cutRun sh 9 (List.range n)
def CutV (H : Hp) (r : Option (List Nat)) (v : V) (H' : Hp) : Prop := match r with
  | none => v = .non
  | some ns => ∃ p, v = .ref p ∧ H p = none ∧ At H' p (.lst (nV ns))
theorem filt_lt {left : List Nat} {n : Nat} (h : n ∈ left) : (left.filter fun x => !decide (x = n)).length < left.length := by
  induction left with
  | nil => cases h
  | cons x xs ih =>
    by_cases e : x = n
    · subst e
      have := List.length_filter_le (fun y => !decide (y = x)) xs
      simp
      omega
    · have h2 : n ∈ xs := by
        rcases List.mem_cons.mp h with z | z
        · exact absurd z.symm e
        · exact z
      have := ih h2
      simp [e]
      omega
section
variable {P : Program} {w : World} {K : PySem.W.Frag} {mg : Str → Option Value} {base : Heap}
def sp_law_cut : Sp := fun vs H Q _ => ∃ (m : List Pl) (plv : V) (g : Addr) (gs : List Gv) (us : List V) (ws : Nm × Tr) (wv : V) (time : Int), vs = [plv, .ref g, .int time, wv] ∧ LwA m plv g gs us ws wv H ∧ ∀ v H', Ex H H' → CutV H (cutL (shL m gs time ws) gs.length) v H' → Q v H'
abbrev N_law_cut : List Str := ["_law_places", "_law_given_here", "_law_time", "_law_wish_here", "_law_left", "_law_truth", "_law_again", "_law_number", "_law_fewer", "_law_one"]
theorem sc_law_cut : FnScope N_law_cut ["_law_places", "_law_given_here", "_law_time", "_law_wish_here"] (defScope s_law_cut) := ⟨rfl, rfl, rfl, by decide +kernel, rfl, by decide +kernel, by decide +kernel⟩
theorem ok_law_cut (T : TX w K mg)  : Fn P w K mg base CX0 (13) "_law_cut" ["_law_places", "_law_given_here", "_law_time", "_law_wish_here"] (sp_law_cut) := by
  have f_law_with := ok_law_with (P := P) (base := base) T
  have f_law_shown := ok_law_shown (P := P) (base := base) T
  obtain ⟨fd, F⟩ := T.d_law_cut
  refine mk_fn F T.g_law_cut sc_law_cut (fun vs H Q E h => by obtain ⟨_, _, _, _, _, _, _, _, rfl, _⟩ := h; rfl) (fun _ _ _ _ _ _ us hl => match us, hl with | [_, _, _, _], _ => rfl) (fun cdv A outer s H vs Q E hr h => ?_)
  obtain ⟨m, plv, g, gs, us, ws, wv, time, rfl, A, hq⟩ := h
  have hu := hu_of hr
  refine ⟨(tSeq (tAsg (tLstRg (tRg1 (tCB (Evl.rLenS K) (tCons (tVar 1) tNil)))) (gName 4)) (tSeq (tAsg (tCall sp_law_shown [] E0 (tCons (tVar 0) (tCons (tCall sp_law_with [] E0 (tCons (tVar 0) (tCons (tVar 1) (tCons (tVar 4) tNil)))) (tCons (tVar 2) (tCons (tVar 3) tNil))))) (gName 5)) (tSeq (tAsg (tVar 5) (gName 6)) (tSeq (tWhile (tTru K (tVar 6)) (tSeq (tAsg (tC (.bl false)) (gName 6)) (tFor (iList K (tCB (Evl.rListS K) (tCons (tVar 4) tNil))) (gName 7) (tSeq (tAsg (tLc (iList K (tVar 4)) (gName 9) (tTest (tOp rNe (tVar 9) (tVar 7))) (tVar 9) [9]) (gName 8)) (tSeq (tAsg (tCall sp_law_shown [] E0 (tCons (tVar 0) (tCons (tCall sp_law_with [] E0 (tCons (tVar 0) (tCons (tVar 1) (tCons (tVar 8) tNil)))) (tCons (tVar 2) (tCons (tVar 3) tNil))))) (gName 5)) (tSeq (tIfS (tTest (tOp rIsN (tVar 5) (tC .non))) (tRet (tC .non)) tNext) (tIfS (tB (tVar 5)) (tSeq (tAsg (tVar 8) (gName 4)) (tAsg (tC (.bl true)) (gName 6))) tNext))))))) (tRet (tIf (tTest (tOp rIsN (tVar 5) (tC .non))) (tC .non) (tVar 4))))))),
      (pss_cons (ps_set (i := 4) sc_law_cut.nd rfl (Or.inl rfl) (pe_listRg rfl (by rfl) T.b_list (prg_1 (by rfl) T.b_range (pe_callB cl_len (by rfl) T.b_len bt_len (pa_cons (pv 1) pa_nil)))))
      (pss_cons (ps_set (i := 5) sc_law_cut.nd rfl (Or.inl rfl) (f_law_shown.ex.elim fun _ q => q.elim fun _ q => pe_call q.1 (hr.mono (by omega)) (by rfl) q.2.1 q.2.2.1 q.2.2.2 .nil pass0 (pa_cons (pv 0) (pa_cons (f_law_with.ex.elim fun _ q => q.elim fun _ q => pe_call q.1 (hr.mono (by omega)) (by rfl) q.2.1 q.2.2.1 q.2.2.2 .nil pass0 (pa_cons (pv 0) (pa_cons (pv 1) (pa_cons (pv 4) pa_nil)))) (pa_cons (pv 2) (pa_cons (pv 3) pa_nil))))))
      (pss_cons (ps_set (i := 6) sc_law_cut.nd rfl (Or.inl rfl) (pv 5))
      (pss_cons (ps_while PassesOwn.never (pt_truth (pv 6) (by intro _; rfl)) (pss_cons (ps_set (i := 6) sc_law_cut.nd rfl (Or.inl rfl) pe_bl)
      (pss_one (ps_for PassesOwn.never rfl (pi_list (pe_callTy cl_list (by rfl) T.b_list bt_list (pa_cons (pv 4) pa_nil))) (pg_name (i := 7) sc_law_cut.nd rfl (Or.inr rfl)) (pss_cons (ps_setLc (i := 8) (own := [("_law_one", 9)]) (wi := (iList K (tVar 4))) (g := (gName 9)) (tt := (tTest (tOp rNe (tVar 9) (tVar 7)))) (te := (tVar 9)) rfl sc_law_cut.nd rfl rfl (sw_true rfl rfl rfl (by decide +kernel)) (pi_list (pv 4)) (blkOk_by (N := N_law_cut) (sc := defScope s_law_cut) (by decide +kernel)) (fun _ _ _ _ _ => (pg_name (i := 9) sc_law_cut.nd rfl (Or.inl rfl))) (fun _ _ _ _ _ => (pts_one (pt_cmpR op_ne (pv 9) (pv 7) (nomark _)))) (fun _ _ _ _ _ => (pv 9)))
      (pss_cons (ps_set (i := 5) sc_law_cut.nd rfl (Or.inl rfl) (f_law_shown.ex.elim fun _ q => q.elim fun _ q => pe_call q.1 (hr.mono (by omega)) (by rfl) q.2.1 q.2.2.1 q.2.2.2 .nil pass0 (pa_cons (pv 0) (pa_cons (f_law_with.ex.elim fun _ q => q.elim fun _ q => pe_call q.1 (hr.mono (by omega)) (by rfl) q.2.1 q.2.2.1 q.2.2.2 .nil pass0 (pa_cons (pv 0) (pa_cons (pv 1) (pa_cons (pv 8) pa_nil)))) (pa_cons (pv 2) (pa_cons (pv 3) pa_nil))))))
      (pss_cons (ps_if (pt_cmpR op_isN1 (pv 5) pe_non (nomark _)) (pss_one (ps_ret pe_non)) pss_nil)
      (pss_one (ps_if (pt_val (pv 5)) (pss_cons (ps_set (i := 4) sc_law_cut.nd rfl (Or.inl rfl) (pv 8))
      (pss_one (ps_set (i := 6) sc_law_cut.nd rfl (Or.inl rfl) pe_bl))) pss_nil)))))))))
      (pss_one (ps_ret (pe_ifExp (pt_cmpR op_isN1 (pv 5) pe_non (nomark _)) pe_non (pv 4)))))))), ?_⟩
  refine g_start (σ' := [some _, some _, some _, some _, none, none, none, none, none, none]) rfl ?_
  have hg := A.hg
  have few := A.few
  refine g_seq (g_asg (g_lrg (g_cb (g_cons (g_v1 (g_nil (g_lnL (by walk_at "hx") ?_)))))))
  refine g_lrgA (n := gs.length) (by rw [A.hal.len]) (by omega) (fun p H1 n1 e1 hp => ?_)
  have A1 := A.ex e1
  have hlt0 : ∀ n ∈ List.range gs.length, n < gs.length := fun n hn => List.mem_range.mp hn
  have hl0 : (List.range gs.length).length ≤ 8 := by rw [List.length_range]; exact few
  refine g_n4 (g_seq (g_asg (g_call (g_cons (g_v0 (g_cons (g_call (g_cons (g_v0 (g_cons (g_v1 (g_cons (g_v4 (g_nil ?_))))))))))))))
  refine ⟨m, plv, g, p, gs, us, List.range gs.length, rfl, A1.hm, A1.hk, A1.hg, A1.hal, A1.hok, A1.few, hp, hlt0, List.pairwise_lt_range, fun lm Hw xw frw Lw => ?_⟩
  have Aw := A1.ex xw
  refine g_cons (g_v2 (g_cons (g_v3 (g_nil ?_))))
  refine ⟨H1, m, plv, lm, _, ws, wv, time, rfl, Aw.hm, Aw.hk, Lw, Aw.mo hlt0 hl0, Aw.hw, Aw.hwo, xw, frw, fun H2 x2 => ?_⟩
  refine g_n5 (g_seq (g_asg (g_v5 (g_n6 (g_seq ?_)))))
  generalize hr : cutL (shL m gs time ws) gs.length = r at hq
  refine g_while (fun k σ' H' => ∃ (la : Addr) (ns : List Nat) (ag tr : V) (x7 x8 x9 : Option V), σ' = [some plv, some (.ref g), some (.int time), some wv, some (.ref la), some tr, some ag, x7, x8, x9] ∧ Ex H H' ∧ H la = none ∧ At H' la (.lst (nV ns)) ∧ (∀ n ∈ ns, n < gs.length) ∧ ns.Pairwise (· < ·) ∧ ns.length ≤ 8 ∧
    ((∃ b : Bool, ag = .bl true ∧ tr = .bl b ∧ cutRun (shL m gs time ws) k ns = r ∧ ns.length < k) ∨ (∃ b : Bool, ag = .bl false ∧ tr = .bl b ∧ r = some ns) ∨ (ag = .non ∧ tr = .non ∧ r = none)))
    ⟨9, p, List.range gs.length, _, _, _, _, _, rfl, e1.trans x2, n1, hp.ex x2, hlt0, List.pairwise_lt_range, hl0, ?_⟩ (fun k σ' H' w1 => ?_)
  · unfold cutL at hr
    have hs : shownOf m ws time (startOf m (ltsOf m gs (List.range gs.length))) = shL m gs time ws (List.range gs.length) := rfl
    rw [hs]
    cases q : shL m gs time ws (List.range gs.length) with
    | none =>
      rw [q] at hr
      exact .inr (.inr ⟨rfl, rfl, hr.symm⟩)
    | some b =>
      rw [q] at hr
      cases b with
      | false => exact .inr (.inl ⟨false, rfl, rfl, hr.symm⟩)
      | true => exact .inl ⟨true, rfl, rfl, hr, by omega⟩
  obtain ⟨la, ns, ag, tr, x7, x8, x9, rfl, e3, nla, hla, hlt, hpw, hl8, hcase⟩ := w1
  refine g_tru (g_v6 ?_)
  rcases hcase with ⟨b0, rfl, rfl, hrun, hk⟩ | ⟨b0, rfl, rfl, rfl⟩ | ⟨rfl, rfl, rfl⟩
  · refine g_trB ?_
    cases k with
    | zero => omega
    | succ k =>
      unfold cutRun at hrun
      generalize hrp : passOf (shL m gs time ws) ns ns = rp at hrun
      refine g_iteT (g_turn (g_seq (g_asg (g_c (g_n6 (g_forL (g_cb (g_cons (g_v4 (g_nil ?_))))))))))
      refine g_listL hla (fun c H3 n3 e4 hc => ?_)

      refine fo_L hc (fun i σ' H4 => (∃ (lb : Addr) (left : List Nat) (b : Bool) (y7 y8 y9 : Option V), σ' = [some plv, some (.ref g), some (.int time), some wv, some (.ref lb), some (.bl b), some (.bl (decide (left.length < ns.length))), y7, y8, y9] ∧ H lb = none ∧ At H4 lb (.lst (nV left)) ∧ (∀ n ∈ left, n ∈ ns) ∧ left.Pairwise (· < ·) ∧ (∀ x ∈ ns.drop i, x ∈ left) ∧ left.length ≤ ns.length ∧ passOf (shL m gs time ws) (ns.drop i) left = rp) ∧ Ex H3 H4)
        ⟨⟨la, ns, b0, _, _, _, by rw [show decide (ns.length < ns.length) = false by simp], nla, hla.ex e4, fun _ m => m, hpw, fun _ m => m, Nat.le_refl _, hrp⟩, Evl.Ex.refl _⟩ (fun i σ' H4 w2 => hc.ex w2.2) (fun i u σ' H4 hi w2 => ?_) (fun σ' H4 w2 => ?_)
      · obtain ⟨⟨lb, left, b, y7, y8, y9, rfl, nlb, hlb, hsub, hlp, hdl, hll, hps⟩, e5⟩ := w2
        rw [List.getElem?_map] at hi
        obtain ⟨n, hn, rfl⟩ := Option.map_eq_some_iff.mp hi
        have hnl := (List.getElem?_eq_some_iff.mp hn).1
        have hdr : ns.drop i = n :: ns.drop (i + 1) := by
          rw [← (List.getElem?_eq_some_iff.mp hn).2]
          exact List.drop_eq_getElem_cons hnl
        rw [hdr] at hps hdl
        unfold passOf at hps
        have e34 := e3.trans (e4.trans e5)
        have hnleft : n ∈ left := hdl n List.mem_cons_self
        have hdp : ∀ x ∈ ns.drop (i + 1), n < x := by
          have q : (ns.drop i).Pairwise (· < ·) := List.Pairwise.sublist (List.drop_sublist _ _) hpw
          rw [hdr, List.pairwise_cons] at q
          exact q.1
        refine g_n7 (g_seq (g_asg (g_lcL (g_v4 ?_))))
        refine lc_pureL (R := fun (n : Nat) u _ => u = V.int (n : Int)) (S := fun (n : Nat) u _ => u = V.int (n : Int)) (ds := left) (p := fun x => !decide (x = n)) (f := id) hlb (al_eq left) (by omega) (fun _ _ _ _ h => h) (fun _ _ _ _ t h => h) (fun z hz u H1 e1 hR Y N hY hN => ?_) (fun D acc H5 n5 e6 hD hacc => ?_)
        · subst hR
          by_cases e : z = n
          · refine g_n9 (And.intro rfl (g_tst (g_op (g_v9 (g_v7 (g_neI (g_k (g_ifN0 (by omega) ?_))))))))
            exact hN _ (Evl.Ex.refl _) (by simp [e])
          ·
            refine g_n9 (And.intro rfl (g_tst (g_op (g_v9 (g_v7 (g_neI (g_k (g_ifN1 (by omega) (g_v9 ?_)))))))))
            exact hY _ _ (Evl.Ex.refl _) (by simp [e]) rfl
        · rw [List.map_id] at hacc
          have eacc := al_eq_of hacc
          subst eacc
          have A5 := A.ex (e34.trans e6)
          have hfl := filt_lt hnleft
          have hlt5 : ∀ x ∈ left.filter (fun x => !decide (x = n)), x < gs.length := fun x hx => hlt x (hsub x (List.mem_filter.mp hx).1)
          have hpw5 : (left.filter (fun x => !decide (x = n))).Pairwise (· < ·) := List.Pairwise.filter _ hlp
          refine g_n8 (g_seq (g_asg (g_call (g_cons (g_v0 (g_cons (g_call (g_cons (g_v0 (g_cons (g_v1 (g_cons (g_v8 (g_nil ?_))))))))))))))
          refine ⟨m, plv, g, D, gs, us, _, rfl, A5.hm, A5.hk, A5.hg, A5.hal, A5.hok, A5.few, hD, hlt5, hpw5, fun lm Hw xw frw Lw => ?_⟩
          have Aw := A5.ex xw
          refine g_cons (g_v2 (g_cons (g_v3 (g_nil ?_))))
          refine ⟨H5, m, plv, lm, _, ws, wv, time, rfl, Aw.hm, Aw.hk, Lw, Aw.mo hlt5 (by omega), Aw.hw, Aw.hwo, xw, frw, fun H6 x6 => ?_⟩
          have e36 := e34.trans (e6.trans x6)
          cases hsh : shownOf m ws time (startOf m (ltsOf m gs (left.filter fun x => !decide (x = n)))) with
          | none =>
            have hsh' : shL m gs time ws (left.filter fun x => !decide (x = n)) = none := hsh
            rw [hsh'] at hps
            simp only at hps
            refine g_n5 (g_seq (g_ifs (g_tst (g_op (g_v5 (g_c (g_isN (g_k (g_ifD1 (rfl) (g_ret (g_c ?_)))))))))))
            refine hq _ _ e36 ?_
            rw [← hps] at hrun
            simp only at hrun
            rw [← hrun]
            exact rfl
          | some b =>
            have hsh' : shL m gs time ws (left.filter fun x => !decide (x = n)) = some b := hsh
            rw [hsh'] at hps
            cases b with
            | true =>
              simp only at hps
              refine g_n5 (g_seq (g_ifs (g_tst (g_op (g_v5 (g_c (g_isN (g_k (g_ifD0 (by simp [optV]) (g_next (g_ifs (g_tB (g_v5 (g_k (g_iteT (g_seq (g_asg (g_v8 (g_n4 (g_asg (g_c (g_n6 ?_))))))))))))))))))))))
              refine ⟨⟨D, _, true, some (.int (n : Nat)), some (.ref D), y9, ?_, fresh_back (e34) n5, hD.ex x6, fun x hx => hsub x (List.mem_filter.mp hx).1, hpw5, fun x hx => ?_, by omega, hps⟩, e5.trans (e6.trans x6)⟩
              · rw [show decide ((left.filter fun x => !decide (x = n)).length < ns.length) = true from decide_eq_true (by omega)]
                rfl
              · refine List.mem_filter.mpr ⟨hdl x (List.mem_cons_of_mem _ hx), ?_⟩
                have := hdp x hx
                simp
                omega
            | false =>
              simp only at hps
              refine g_n5 (g_seq (g_ifs (g_tst (g_op (g_v5 (g_c (g_isN (g_k (g_ifD0 (by simp [optV]) (g_next (g_ifs (g_tB (g_v5 (g_k (g_iteF (g_next ?_))))))))))))))))
              exact ⟨⟨lb, left, false, _, _, _, rfl, nlb, hlb.ex (e6.trans x6), hsub, hlp, fun x hx => hdl x (List.mem_cons_of_mem _ hx), hll, hps⟩, e5.trans (e6.trans x6)⟩
      · obtain ⟨⟨lb, left, b, y7, y8, y9, rfl, nlb, hlb, hsub, hlp, hdl, hll, hps⟩, e5⟩ := w2
        have hd : ns.drop (nV ns).length = [] := List.drop_eq_nil_of_le (by simp)
        rw [hd] at hps
        simp only [passOf] at hps
        rw [← hps] at hrun
        simp only at hrun
        refine ⟨k, by omega, lb, left, _, _, y7, y8, y9, rfl, e3.trans (e4.trans e5), nlb, hlb, fun z hz => hlt z (hsub z hz), hlp, by omega, ?_⟩
        by_cases hsm : left.length < ns.length
        · rw [if_pos hsm] at hrun
          exact .inl ⟨b, by rw [decide_eq_true hsm], rfl, hrun, by omega⟩
        · rw [if_neg hsm] at hrun
          exact .inr (.inl ⟨b, by rw [decide_eq_false hsm], rfl, hrun.symm⟩)
  · refine g_trB ?_
    refine g_iteF (g_ret (g_if (g_tst (g_op (g_v5 (g_c (g_isN (g_k (g_ifD0 (by simp) (g_v4 ?_))))))))))
    exact hq _ _ e3 ⟨la, rfl, nla, hla⟩
  · refine g_trN ?_
    refine g_iteF (g_ret (g_if (g_tst (g_op (g_v5 (g_c (g_isN (g_k (g_ifD1 (rfl) (g_c ?_))))))))))
    exact hq _ _ e3 rfl
/-- whether a number may be left out, told by a truth -/
def notO : Option Bool → V
  | none => .non
  | some b => .bl (!b)
theorem inV_eq (z : V) (xs : List V) : inV z xs = xs.any (fun y => eqV y z) := by
  unfold inV
  rfl
theorem flat_optV (o : Option Bool) : flatV (optV o) = true := by cases o <;> rfl
theorem flat_notO (o : Option Bool) : flatV (notO o) = true := by cases o <;> rfl
theorem need_truths (sh : List Nat → Option Bool) (ns : List Nat) : optV (needOf sh ns) = if inV .non (optV (sh ns) :: ns.map fun n => notO (sh (fewOf ns n))) = true then .non else .bl (!inV (.bl false) (optV (sh ns) :: ns.map fun n => notO (sh (fewOf ns n)))) := by
  have e1 : inV .non (optV (sh ns) :: ns.map fun n => notO (sh (fewOf ns n))) = ((sh ns).isNone || ns.any fun n => (sh (fewOf ns n)).isNone) := by
    rw [inV_eq, List.any_cons, List.any_map]
    congr 1
    · cases sh ns <;> rfl
    · congr 1
      funext n
      simp only [Function.comp]
      cases sh (fewOf ns n) <;> rfl
  unfold needOf
  rw [e1]
  split
  · rfl
  · rename_i hc
    have hc := Bool.eq_false_iff.mpr hc
    rw [Bool.or_eq_false_iff] at hc
    show V.bl _ = V.bl _
    congr 1
    rw [inV_eq, List.any_cons, List.any_map, Bool.not_or]
    congr 1
    · cases q : sh ns with
      | none => rw [q] at hc; simp at hc
      | some b => cases b <;> rfl
    · rw [List.not_any_eq_all_not]
      rw [Bool.eq_iff_iff, List.all_eq_true, List.all_eq_true]
      have hn := List.any_eq_false.mp hc.2
      constructor
      · intro h n hm
        have h1 := h n hm
        simp only [beq_iff_eq] at h1
        simp only [Function.comp, h1]
        rfl
      · intro h n hm
        have h1 := h n hm
        have h2 := hn n hm
        simp only [Function.comp] at h1
        cases q : sh (fewOf ns n) with
        | none => rw [q] at h2; simp at h2
        | some b =>
          rw [q] at h1
          cases b with
          | false => rfl
          | true => simp [notO, eqV] at h1
end
end PM
/-! part F32 -/
namespace PM
open PySem PySem.Spec PyProof.Rows L2 PMH
open Evl (Ex)

local macro_rules | `(tactic| walk_at "ex") => `(tactic| first
  | with_reducible assumption
  | with_reducible exact Evl.Ex.refl _
  | (refine Evl.Ex.trans ?_ (by with_reducible assumption); walk_at "ex"))
local macro_rules | `(tactic| walk_at "hx") => `(tactic| first
  | with_reducible assumption
  | (refine At.ex (by with_reducible assumption) ?_; walk_at "ex")
  | (refine Fz.tx (by with_reducible assumption) ?_; walk_at "tx")
  | (refine TrAt.ex (by with_reducible assumption) ?_; walk_at "ex")
  | (refine MlAt.tx ?_ (by with_reducible assumption); walk_at "tx")
  | (refine PlAt.tx ?_ (by with_reducible assumption); walk_at "tx")
  | (refine LtAt.tx ?_ (by with_reducible assumption); walk_at "tx")
  | (refine GvAt.tx ?_ (by with_reducible assumption); walk_at "tx")
  | (refine WsAt.tx ?_ (by with_reducible assumption); walk_at "tx")
  | (refine RwAt.tx ?_ _ _ (by with_reducible assumption); walk_at "tx")
  | (refine RwsAt.tx ?_ _ _ (by with_reducible assumption); walk_at "tx")
  | (refine RuAt.tx ?_ (by with_reducible assumption); walk_at "tx")
  | (refine PrAt.tx ?_ (by with_reducible assumption); walk_at "tx"))
local macro_rules | `(tactic| walk_at "num") => `(tactic| first
  | with_reducible assumption
  | decide
  | exact Or.inl ⟨by omega, by omega⟩
  | exact Or.inr ⟨by omega, by omega⟩
  | (refine ⟨?_, ?_⟩ <;> omega)
  | (show (0 : Int) < _; omega))
local macro_rules | `(tactic| walk_at "tx") => `(tactic| first
  | with_reducible assumption
  | (refine Tx.ex ?_; walk_at "ex"))
local macro_rules | `(tactic| walk_at "sz") => `(tactic| first
  | with_reducible assumption
  | omega
  | (refine Evl.sz_of ?_; omega)
  | (refine Evl.sz_lt ?_; omega))
local macro_rules | `(tactic| walk_at "fl") => `(tactic| first
  | rfl
  | decide +kernel)

section
variable {P : Program} {w : World} {K : PySem.W.Frag} {mg : Str → Option Value} {base : Heap}
def sp_law_needed : Sp := fun vs H Q _ => ∃ (m : List Pl) (plv : V) (g na : Addr) (gs : List Gv) (us : List V) (ws : Nm × Tr) (wv : V) (time : Int) (ns : List Nat), vs = [plv, .ref g, .int time, wv, .ref na] ∧ LwA m plv g gs us ws wv H ∧ At H na (.lst (nV ns)) ∧ (∀ n ∈ ns, n < gs.length) ∧ ns.Pairwise (· < ·) ∧ ns.length ≤ 8 ∧ Ret (optV (needOf (shL m gs time ws) ns)) H Q
abbrev N_law_needed : List Str := ["_law_places", "_law_given_here", "_law_time", "_law_wish_here", "_law_numbers", "_law_truths", "_law_number", "_law_fewer", "_law_truth", "_law_one"]
theorem sc_law_needed : FnScope N_law_needed ["_law_places", "_law_given_here", "_law_time", "_law_wish_here", "_law_numbers"] (defScope s_law_needed) := ⟨rfl, rfl, rfl, by decide +kernel, rfl, by decide +kernel, by decide +kernel⟩
theorem ok_law_needed (T : TX w K mg)  : Fn P w K mg base CX0 (13) "_law_needed" ["_law_places", "_law_given_here", "_law_time", "_law_wish_here", "_law_numbers"] (sp_law_needed) := by
  have f_law_with := ok_law_with (P := P) (base := base) T
  have f_law_shown := ok_law_shown (P := P) (base := base) T
  obtain ⟨fd, F⟩ := T.d_law_needed
  refine mk_fn F T.g_law_needed sc_law_needed (fun vs H Q E h => by obtain ⟨_, _, _, _, _, _, _, _, _, _, rfl, _⟩ := h; rfl) (fun _ _ _ _ _ _ us hl => match us, hl with | [_, _, _, _, _], _ => rfl) (fun cdv A outer s H vs Q E hr h => ?_)
  obtain ⟨m, plv, g, na, gs, us, ws, wv, time, ns, rfl, A, hna, hlt, hpw, hl8, hq⟩ := h
  have hu := hu_of hr
  refine ⟨(tSeq (tAsg (tLst (tCons (tCall sp_law_shown [] E0 (tCons (tVar 0) (tCons (tCall sp_law_with [] E0 (tCons (tVar 0) (tCons (tVar 1) (tCons (tVar 4) tNil)))) (tCons (tVar 2) (tCons (tVar 3) tNil))))) tNil)) (gName 5)) (tSeq (tFor (iList K (tVar 4)) (gName 6) (tSeq (tAsg (tLc (iList K (tVar 4)) (gName 9) (tTest (tOp rNe (tVar 9) (tVar 6))) (tVar 9) [9]) (gName 7)) (tSeq (tAsg (tCall sp_law_shown [] E0 (tCons (tVar 0) (tCons (tCall sp_law_with [] E0 (tCons (tVar 0) (tCons (tVar 1) (tCons (tVar 7) tNil)))) (tCons (tVar 2) (tCons (tVar 3) tNil))))) (gName 8)) (tDrop (tBM K "list" rAppend (tVar 5) (tCons (tIf (tTest (tOp rIsN (tVar 8) (tC .non))) (tC .non) (tNotV (tVar 8))) tNil)))))) (tRet (tIf (tTest (tOp (rIn K false) (tC .non) (tVar 5))) (tC .non) (tOp (rIn K true) (tC (.bl false)) (tVar 5)))))),
      (pss_cons (ps_set (i := 5) sc_law_needed.nd rfl (Or.inl rfl) (pe_lst (pa_cons (f_law_shown.ex.elim fun _ q => q.elim fun _ q => pe_call q.1 (hr.mono (by omega)) (by rfl) q.2.1 q.2.2.1 q.2.2.2 .nil pass0 (pa_cons (pv 0) (pa_cons (f_law_with.ex.elim fun _ q => q.elim fun _ q => pe_call q.1 (hr.mono (by omega)) (by rfl) q.2.1 q.2.2.1 q.2.2.2 .nil pass0 (pa_cons (pv 0) (pa_cons (pv 1) (pa_cons (pv 4) pa_nil)))) (pa_cons (pv 2) (pa_cons (pv 3) pa_nil))))) pa_nil)))
      (pss_cons (ps_for PassesOwn.never rfl (pi_list (pv 4)) (pg_name (i := 6) sc_law_needed.nd rfl (Or.inr rfl)) (pss_cons (ps_setLc (i := 7) (own := [("_law_one", 9)]) (wi := (iList K (tVar 4))) (g := (gName 9)) (tt := (tTest (tOp rNe (tVar 9) (tVar 6)))) (te := (tVar 9)) rfl sc_law_needed.nd rfl rfl (sw_true rfl rfl rfl (by decide +kernel)) (pi_list (pv 4)) (blkOk_by (N := N_law_needed) (sc := defScope s_law_needed) (by decide +kernel)) (fun _ _ _ _ _ => (pg_name (i := 9) sc_law_needed.nd rfl (Or.inl rfl))) (fun _ _ _ _ _ => (pts_one (pt_cmpR op_ne (pv 9) (pv 6) (nomark _)))) (fun _ _ _ _ _ => (pv 9)))
      (pss_cons (ps_set (i := 8) sc_law_needed.nd rfl (Or.inl rfl) (f_law_shown.ex.elim fun _ q => q.elim fun _ q => pe_call q.1 (hr.mono (by omega)) (by rfl) q.2.1 q.2.2.1 q.2.2.2 .nil pass0 (pa_cons (pv 0) (pa_cons (f_law_with.ex.elim fun _ q => q.elim fun _ q => pe_call q.1 (hr.mono (by omega)) (by rfl) q.2.1 q.2.2.1 q.2.2.2 .nil pass0 (pa_cons (pv 0) (pa_cons (pv 1) (pa_cons (pv 7) pa_nil)))) (pa_cons (pv 2) (pa_cons (pv 3) pa_nil))))))
      (pss_one (ps_expr (pe_bm PySem.F.plainAttrs_list PySem.F.slot_list_append PySem.F.type_list_append mt_append (pv 5) (pa_cons (pe_ifExp (pt_cmpR op_isN1 (pv 8) pe_non (nomark _)) pe_non (pe_not (pv 8))) pa_nil)))))))
      (pss_one (ps_ret (pe_ifExp (pt_cmpR op_in_seq pe_non (pv 5) (by rfl)) pe_non (pe_cmpR op_notIn_seq pe_bl (pv 5) (by rfl))))))), ?_⟩
  refine g_start (σ' := [some _, some _, some _, some _, some _, none, none, none, none, none]) rfl ?_
  have hnt := need_truths (shL m gs time ws) ns
  refine g_seq (g_asg (g_lst (g_cons (g_call (g_cons (g_v0 (g_cons (g_call (g_cons (g_v0 (g_cons (g_v1 (g_cons (g_v4 (g_nil ?_)))))))))))))))
  refine ⟨m, plv, g, na, gs, us, ns, rfl, A.hm, A.hk, A.hg, A.hal, A.hok, A.few, hna, hlt, hpw, fun lm Hw xw frw Lw => ?_⟩
  have Aw := A.ex xw
  refine g_cons (g_v2 (g_cons (g_v3 (g_nil ?_))))
  refine ⟨H, m, plv, lm, _, ws, wv, time, rfl, Aw.hm, Aw.hk, Lw, Aw.mo hlt hl8, Aw.hw, Aw.hwo, xw, frw, fun H2 x2 => ?_⟩
  refine g_nil ?_
  refine g_lstN (by simp) (fun TL H3 nTL e3 hTL => ?_)
  have nTL0 : H TL = none := fresh_back x2 nTL
  have hna3 := hna.ex (x2.trans e3)
  refine g_n5 (g_seq (g_forL (g_v4 ?_)))
  refine fo_L hna3 (fun i σ' H' => (∃ x6 x7 x8 x9, σ' = [some plv, some (.ref g), some (.int time), some wv, some (.ref na), some (.ref TL), x6, x7, x8, x9]) ∧ Ex H H' ∧ At H' TL (.lst (optV (shL m gs time ws ns) :: (ns.take i).map fun n => notO (shL m gs time ws (fewOf ns n)))))
    ⟨⟨_, _, _, _, rfl⟩, x2.trans e3, hTL⟩ (fun i σ' H' w => hna.ex w.2.1) (fun i u σ' H' hi w => ?_) (fun σ' H' w => ?_)
  · obtain ⟨⟨x6, x7, x8, x9, rfl⟩, e4, hT⟩ := w
    rw [List.getElem?_map] at hi
    obtain ⟨n, hn, rfl⟩ := Option.map_eq_some_iff.mp hi
    have hna4 := hna.ex e4
    have hfl := List.length_filter_le (fun x => !decide (x = n)) ns
    have tl : (optV (shL m gs time ws ns) :: (ns.take i).map fun n => notO (shL m gs time ws (fewOf ns n))).length ≤ 100 := by
      rw [List.length_cons, List.length_map, List.length_take]
      omega
    have nxt : (optV (shL m gs time ws ns) :: (ns.take (i + 1)).map fun n => notO (shL m gs time ws (fewOf ns n))) = (optV (shL m gs time ws ns) :: (ns.take i).map fun n => notO (shL m gs time ws (fewOf ns n))) ++ [notO (shL m gs time ws (fewOf ns n))] := by
      rw [take_at hn, List.map_append]
      rfl
    refine g_n6 (g_seq (g_asg (g_lcL (g_v4 ?_))))
    refine lc_pureL (R := fun (n : Nat) u _ => u = V.int (n : Int)) (S := fun (n : Nat) u _ => u = V.int (n : Int)) (ds := ns) (p := fun x => !decide (x = n)) (f := id) hna4 (al_eq ns) (by omega) (fun _ _ _ _ h => h) (fun _ _ _ _ t h => h) (fun z hz u H1 e1 hR Y N hY hN => ?_) (fun D acc H5 n5 e6 hD hacc => ?_)
    · subst hR
      by_cases e : z = n
      · refine g_n9 (And.intro rfl (g_tst (g_op (g_v9 (g_v6 (g_neI (g_k (g_ifN0 (by omega) ?_))))))))
        exact hN _ (Evl.Ex.refl _) (by simp [e])
      ·
        refine g_n9 (And.intro rfl (g_tst (g_op (g_v9 (g_v6 (g_neI (g_k (g_ifN1 (by omega) (g_v9 ?_)))))))))
        exact hY _ _ (Evl.Ex.refl _) (by simp [e]) rfl
    · rw [List.map_id] at hacc
      have eacc := al_eq_of hacc
      subst eacc
      have A5 := A.ex (e4.trans e6)
      have hlt5 : ∀ x ∈ ns.filter (fun x => !decide (x = n)), x < gs.length := fun x hx => hlt x (List.mem_filter.mp hx).1
      have hpw5 : (ns.filter (fun x => !decide (x = n))).Pairwise (· < ·) := List.Pairwise.filter _ hpw
      refine g_n7 (g_seq (g_asg (g_call (g_cons (g_v0 (g_cons (g_call (g_cons (g_v0 (g_cons (g_v1 (g_cons (g_v7 (g_nil ?_))))))))))))))
      refine ⟨m, plv, g, D, gs, us, _, rfl, A5.hm, A5.hk, A5.hg, A5.hal, A5.hok, A5.few, hD, hlt5, hpw5, fun lm Hw xw frw Lw => ?_⟩
      have Aw := A5.ex xw
      refine g_cons (g_v2 (g_cons (g_v3 (g_nil ?_))))
      refine ⟨H5, m, plv, lm, _, ws, wv, time, rfl, Aw.hm, Aw.hk, Lw, Aw.mo hlt5 (by omega), Aw.hw, Aw.hwo, xw, frw, fun H6 x6 => ?_⟩
      have e46 := e4.trans (e6.trans x6)
      have hT6 := hT.ex (e6.trans x6)
      cases hsh : shownOf m ws time (startOf m (ltsOf m gs (ns.filter fun x => !decide (x = n)))) with
      | none =>
        have hsh' : shL m gs time ws (fewOf ns n) = none := hsh
        rw [hsh'] at nxt
        refine g_n8 (g_drop (g_bm (g_v5 (g_tyL (by walk_at "hx") (g_cons (g_if (g_tst (g_op (g_v8 (g_c (g_isN (g_k (g_ifD1 (rfl) (g_c (g_nil (g_app (by walk_at "hx") (by walk_at "sz") ?_))))))))))))))))
        exact ⟨⟨_, _, _, _, rfl⟩, ex_upd e46 nTL0, by rw [nxt]; exact at_new⟩
      | some b =>
        have hsh' : shL m gs time ws (fewOf ns n) = some b := hsh
        rw [hsh'] at nxt
        refine g_n8 (g_drop (g_bm (g_v5 (g_tyL (by walk_at "hx") (g_cons (g_if (g_tst (g_op (g_v8 (g_c (g_isN (g_k (g_ifD0 (by simp [optV]) (g_notV (g_v8 (g_k (g_nil (g_app (by walk_at "hx") (by walk_at "sz") ?_))))))))))))))))))
        exact ⟨⟨_, _, _, _, rfl⟩, ex_upd e46 nTL0, by rw [nxt]; exact at_new⟩
  · obtain ⟨⟨x6, x7, x8, x9, rfl⟩, e4, hT⟩ := w
    rw [show (nV ns).length = ns.length by simp, List.take_length] at hT
    have fl : (optV (shL m gs time ws ns) :: ns.map fun n => notO (shL m gs time ws (fewOf ns n))).all flatV = true := by
      rw [List.all_cons, flat_optV, List.all_map]
      exact List.all_eq_true.mpr fun n _ => flat_notO _
    refine g_ret (g_if (g_tst (g_op (g_c (g_v5 ?_)))))
    generalize (optV (shL m gs time ws ns) :: ns.map fun n => notO (shL m gs time ws (fewOf ns n))) = xs at hT fl hnt
    refine g_inL0 (b := inV .non xs) hT.sqL rfl fl rfl ?_
    cases hb : inV .non xs with
    | true =>
      rw [if_pos hb] at hnt
      refine g_k (g_iteT (g_c ?_))
      rw [← hnt]
      exact hq _ e4
    | false =>
      rw [if_neg (by rw [hb]; decide)] at hnt
      refine g_k (g_iteF (g_op (g_c (g_v5 ?_))))
      refine g_inL1 (b := !inV (.bl false) xs) hT.sqL rfl fl rfl ?_
      rw [← hnt]
      exact hq _ e4
end
end PM
/-! part F30 -/
namespace PM
open PySem PySem.Spec PyProof.Rows L2 PMH
open Evl (Ex)

local macro_rules | `(tactic| walk_at "ex") => `(tactic| first
  | with_reducible assumption
  | with_reducible exact Evl.Ex.refl _
  | (refine Evl.Ex.trans ?_ (by with_reducible assumption); walk_at "ex"))
local macro_rules | `(tactic| walk_at "hx") => `(tactic| first
  | with_reducible assumption
  | (refine At.ex (by with_reducible assumption) ?_; walk_at "ex")
  | (refine Fz.tx (by with_reducible assumption) ?_; walk_at "tx")
  | (refine TrAt.ex (by with_reducible assumption) ?_; walk_at "ex")
  | (refine MlAt.tx ?_ (by with_reducible assumption); walk_at "tx")
  | (refine PlAt.tx ?_ (by with_reducible assumption); walk_at "tx")
  | (refine LtAt.tx ?_ (by with_reducible assumption); walk_at "tx")
  | (refine GvAt.tx ?_ (by with_reducible assumption); walk_at "tx")
  | (refine WsAt.tx ?_ (by with_reducible assumption); walk_at "tx")
  | (refine RwAt.tx ?_ _ _ (by with_reducible assumption); walk_at "tx")
  | (refine RwsAt.tx ?_ _ _ (by with_reducible assumption); walk_at "tx")
  | (refine RuAt.tx ?_ (by with_reducible assumption); walk_at "tx")
  | (refine PrAt.tx ?_ (by with_reducible assumption); walk_at "tx"))
local macro_rules | `(tactic| walk_at "num") => `(tactic| first
  | with_reducible assumption
  | decide
  | exact Or.inl ⟨by omega, by omega⟩
  | exact Or.inr ⟨by omega, by omega⟩
  | (refine ⟨?_, ?_⟩ <;> omega)
  | (show (0 : Int) < _; omega))
local macro_rules | `(tactic| walk_at "tx") => `(tactic| first
  | with_reducible assumption
  | (refine Tx.ex ?_; walk_at "ex"))
local macro_rules | `(tactic| walk_at "sz") => `(tactic| first
  | with_reducible assumption
  | omega
  | (refine Evl.sz_of ?_; omega)
  | (refine Evl.sz_lt ?_; omega))
local macro_rules | `(tactic| walk_at "fl") => `(tactic| first
  | rfl
  | decide +kernel)

def otherPl (p : Pl) : Pl := { p with boxes := p.boxes.map fun q => (q.1, (q.2 + 1) % 100) }
theorem other_names (p : Pl) : (otherPl p).boxes.map (·.1) = p.boxes.map (·.1) := by
  unfold otherPl
  rw [List.map_map]
  rfl
theorem other_ok {m : List Pl} (hk : MlOk m) : MlOk (m.map otherPl) := by
  have e : namesOf (m.map otherPl) = namesOf m := by
    unfold namesOf
    rw [List.map_map]
    rfl
  refine ⟨by rw [List.length_map]; exact hk.one, by rw [List.length_map]; exact hk.most, by rw [e]; exact hk.nd, fun p hp => ?_⟩
  obtain ⟨q, hq, rfl⟩ := List.mem_map.mp hp
  have h := hk.pl q hq
  rw [e]
  refine ⟨h.name, fun x hx => ?_, by rw [other_names]; exact h.nd, by unfold otherPl; rw [List.length_map]; exact h.few, fun x hx => by rw [other_names]; exact h.rules x hx, h.rnd, h.rfew⟩
  unfold otherPl at hx
  obtain ⟨y, hy, rfl⟩ := List.mem_map.mp hx
  exact ⟨(h.boxes y hy).1, Int.emod_nonneg _ (by decide), Int.emod_lt_of_pos _ (by decide)⟩
section
variable {P : Program} {w : World} {K : PySem.W.Frag} {mg : Str → Option Value} {base : Heap}
def sp_law_other_mill : Sp := fun vs H Q _ => ∃ (m : List Pl) (plv : V), vs = [plv] ∧ MlAt m plv H ∧ MlOk m ∧ ∀ m' v H', Ex H H' → MlAt m' v H' → MlOk m' → Q v H'
abbrev N_law_other_mill : List Str := ["_law_places", "_law_found", "_law_name", "_law_pairs", "_law_rules", "_law_box", "_law_number"]
theorem sc_law_other_mill : FnScope N_law_other_mill ["_law_places"] (defScope s_law_other_mill) := ⟨rfl, rfl, rfl, by decide +kernel, rfl, by decide +kernel, by decide +kernel⟩
theorem ok_law_other_mill (T : TX w K mg)  : Fn P w K mg base CX0 (1) "_law_other_mill" ["_law_places"] (sp_law_other_mill) := by
  obtain ⟨fd, F⟩ := T.d_law_other_mill
  refine mk_fn F T.g_law_other_mill sc_law_other_mill (fun vs H Q E h => by obtain ⟨_, _, rfl, _⟩ := h; rfl) (fun _ _ _ _ _ _ us hl => match us, hl with | [_], _ => rfl) (fun cdv A outer s H vs Q E hr h => ?_)
  obtain ⟨m, plv, rfl, hm, hk, hq⟩ := h
  have hu := hu_of hr
  refine ⟨(tSeq (tAsg (tLst tNil) (gName 1)) (tSeq (tFor (iTup K (tVar 0)) (gTup K 3 (gCons (gName 2) (gCons (gName 3) (gCons (gName 4) gNil)))) (tDrop (tBM K "list" rAppend (tVar 1) (tCons (tTup (tCons (tVar 2) (tCons (tCB (rTupF K) (tCons (tLc (iTup K (tVar 3)) (gTup K 2 (gCons (gName 5) (gCons (gName 6) gNil))) tYes (tTup (tCons (tVar 5) (tCons (tOp rModI (tOp rAddI (tVar 6) (tC (.int 1))) (tC (.int 100))) tNil))) [5, 6]) tNil)) (tCons (tVar 4) tNil)))) tNil)))) (tRet (tCB (rTupS K) (tCons (tVar 1) tNil))))),
      (pss_cons (ps_set (i := 1) sc_law_other_mill.nd rfl (Or.inl rfl) (pe_lst pa_nil))
      (pss_cons (ps_for PassesOwn.never rfl (pi_tup (pv 0)) (pg_tup rfl (pgs_cons (pg_name (i := 2) sc_law_other_mill.nd rfl (Or.inl rfl)) (pgs_cons (pg_name (i := 3) sc_law_other_mill.nd rfl (Or.inl rfl)) (pgs_cons (pg_name (i := 4) sc_law_other_mill.nd rfl (Or.inl rfl)) pgs_nil)))) (pss_one (ps_expr (pe_bm PySem.F.plainAttrs_list PySem.F.slot_list_append PySem.F.type_list_append mt_append (pv 1) (pa_cons (pe_tup (pa_cons (pv 2) (pa_cons (pe_callTy cl_tupF (by rfl) T.b_tuple bt_tuple (pa_cons (pe_lc (own := [("_law_box", 5), ("_law_number", 6)]) (wi := (iTup K (tVar 3))) (g := (gTup K 2 (gCons (gName 5) (gCons (gName 6) gNil)))) (tt := tYes) (te := (tTup (tCons (tVar 5) (tCons (tOp rModI (tOp rAddI (tVar 6) (tC (.int 1))) (tC (.int 100))) tNil)))) rfl sc_law_other_mill.nd (pi_tup (pv 3)) (blkOk_by (N := N_law_other_mill) (sc := defScope s_law_other_mill) (by decide +kernel)) (fun _ _ _ _ _ => (pg_tup rfl (pgs_cons (pg_name (i := 5) sc_law_other_mill.nd rfl (Or.inl rfl)) (pgs_cons (pg_name (i := 6) sc_law_other_mill.nd rfl (Or.inl rfl)) pgs_nil)))) (fun _ _ _ _ _ => pts_nil) (fun _ _ _ _ _ => (pe_tup (pa_cons (pv 5) (pa_cons (pe_op op_mod (pe_op op_add (pv 6) pe_int) pe_int) pa_nil))))) pa_nil)) (pa_cons (pv 4) pa_nil)))) pa_nil)))))
      (pss_one (ps_ret (pe_callTy cl_tuple (by rfl) T.b_tuple bt_tuple (pa_cons (pv 1) pa_nil)))))), ?_⟩
  refine g_start (σ' := [some _, none, none, none, none, none, none]) rfl ?_
  obtain ⟨pc, pvs, rfl, hpc, hpal⟩ := id hm
  have hm4 := hk.most
  refine g_seq (g_asg (g_lst (g_nil ?_)))
  refine g_lstN (by simp) (fun F H1 nF e1 hF => ?_)
  refine g_n1 (g_seq (g_forT (g_v0 ?_)))
  refine fo_T (hpc.ex e1) (fun i σ' H' => (∃ x2 x3 x4 x5 x6, σ' = [some (.ref pc), some (.ref F), x2, x3, x4, x5, x6]) ∧ Ex H H' ∧ ∃ us, At H' F (.lst us) ∧ Al PlAt ((m.take i).map otherPl) us H')
    ⟨⟨_, _, _, _, _, rfl⟩, e1, [], hF, rfl⟩ (fun i σ' H' w => hpc.ex w.2.1) (fun i u σ' H' hi w => ?_) (fun σ' H' w => ?_)
  · obtain ⟨⟨x2, x3, x4, x5, x6, rfl⟩, e2, us, w3, w4⟩ := w
    obtain ⟨p, hp, hR⟩ := hpal.get hi
    obtain ⟨pa, u1, u2, rfl, hpt, ⟨Tb, bvs, rfl, hbz, hbal⟩, hru⟩ := hR
    have hpt' := hpt.ex e2
    have hbz' := hbz.tx (Tx.ex e2)
    have hpl := hk.pl p (List.mem_of_getElem? hp)
    refine g_gtup (by walk_at "hx") rfl (g_gcons (g_n2 (g_gcons (g_n3 (g_gcons (g_n4 (g_gnil (g_drop (g_bm (g_v1 (g_tyL (by walk_at "hx") (g_cons (g_tup (g_cons (g_v2 (g_cons (g_cb (g_cons (g_lcT (g_v3 ?_))))))))))))))))))))
    refine lc_pureR (R := PrAt) (S := PrAt) (ds := p.boxes) (p := fun _ => true) (f := fun q => (q.1, (q.2 + 1) % 100)) hbz'.sqT (fun H1 e => (hbz'.tx (Tx.ex e)).sqT) (hbal.imp fun _ _ z => z.tx (Tx.ex e2)) (by have := hpl.few; omega) (fun _ _ _ e h => h.tx (Tx.ex e)) (fun _ _ _ _ t h => h.tx t) (fun q hq u H1 e1 hR Y N hY _ => ?_) (fun D acc H3 nD e3 hD hacc => ?_)
    · obtain ⟨d, rfl, hd⟩ := hR
      refine g_gtup (by walk_at "hx") rfl (g_gcons (g_n5 (g_gcons (g_n6 (g_gnil (And.intro rfl (g_yes (g_iteT (g_tup (g_cons (g_v5 (g_cons (g_op (g_op (g_v6 (g_c (g_I0 (g_c (g_I (by walk_at "num") (g_nil ?_))))))))))))))))))))
      refine g_tupN (by simp) (fun t H4 nt e4 ht => ?_)

      exact hY _ H4 e4 rfl ⟨t, rfl, ht⟩
    · rw [List.filter_eq_self.mpr (fun _ _ => rfl)] at hacc
      refine g_nil ?_
      refine g_tupF hD (fun T H4 nT e4 hT => ?_)
      refine g_cons (g_v4 (g_nil ?_))
      refine g_tupN (by simp) (fun t H5 nt e5 ht => ?_)
      have e35 := e3.trans (e4.trans e5)
      have w35 := w3.ex e35
      have husl : us.length ≤ 100 := by
        rw [w4.len, List.length_map, List.length_take]
        omega
      refine g_nil (g_app (by walk_at "hx") (by walk_at "sz") ?_)
      have tt : Tx H5 (upd H5 F (.lst (us ++ [.ref t]))) := tx_mut w35
      have t3 := (Tx.ex (e4.trans e5)).trans tt
      have hpl' : PlAt (otherPl p) (.ref t) (upd H5 F (.lst (us ++ [.ref t]))) :=
        ⟨t, .ref T, u2, rfl, tt _ _ trivial ht, ⟨T, acc, rfl, hT.tx ((Tx.ex e5).trans tt), hacc.imp fun _ _ z => z.tx t3⟩, hru.tx (fun _ _ => RuAt.tx ((Tx.ex (e2.trans e35)).trans tt)) ((Tx.ex (e2.trans e35)).trans tt)⟩
      refine ⟨⟨_, _, _, _, _, rfl⟩, ex_upd (e2.trans e35) nF, us ++ [.ref t], at_new, ?_⟩
      rw [take_at hp, List.map_append]
      exact Al.snoc (w4.imp fun _ _ z => z.tx ((Tx.ex e35).trans tt)) hpl'
  · obtain ⟨⟨x2, x3, x4, x5, x6, rfl⟩, e2, us, w3, w4⟩ := w
    rw [hpal.len, List.take_length] at w4
    refine g_ret (g_cb (g_cons (g_v1 (g_nil ?_))))
    refine g_tupL w3 (fun T H2 nT e3 hT => ?_)
    exact hq (m.map otherPl) _ H2 (e2.trans e3) ⟨T, us, rfl, hT, w4.imp fun _ _ z => z.tx (Tx.ex e3)⟩ (other_ok hk)
end
end PM
/-! part F21 -/
namespace PM
open PySem PySem.Spec PyProof.Rows L2 PMH
open Evl (Ex)

local macro_rules | `(tactic| walk_at "ex") => `(tactic| first
  | with_reducible assumption
  | with_reducible exact Evl.Ex.refl _
  | (refine Evl.Ex.trans ?_ (by with_reducible assumption); walk_at "ex"))
local macro_rules | `(tactic| walk_at "hx") => `(tactic| first
  | with_reducible assumption
  | (refine At.ex (by with_reducible assumption) ?_; walk_at "ex")
  | (refine Fz.tx (by with_reducible assumption) ?_; walk_at "tx")
  | (refine TrAt.ex (by with_reducible assumption) ?_; walk_at "ex")
  | (refine MlAt.tx ?_ (by with_reducible assumption); walk_at "tx")
  | (refine PlAt.tx ?_ (by with_reducible assumption); walk_at "tx")
  | (refine LtAt.tx ?_ (by with_reducible assumption); walk_at "tx")
  | (refine GvAt.tx ?_ (by with_reducible assumption); walk_at "tx")
  | (refine WsAt.tx ?_ (by with_reducible assumption); walk_at "tx")
  | (refine RwAt.tx ?_ _ _ (by with_reducible assumption); walk_at "tx")
  | (refine RwsAt.tx ?_ _ _ (by with_reducible assumption); walk_at "tx")
  | (refine RuAt.tx ?_ (by with_reducible assumption); walk_at "tx")
  | (refine PrAt.tx ?_ (by with_reducible assumption); walk_at "tx"))
local macro_rules | `(tactic| walk_at "num") => `(tactic| first
  | with_reducible assumption
  | decide
  | exact Or.inl ⟨by omega, by omega⟩
  | exact Or.inr ⟨by omega, by omega⟩
  | (refine ⟨?_, ?_⟩ <;> omega)
  | (show (0 : Int) < _; omega))
local macro_rules | `(tactic| walk_at "tx") => `(tactic| first
  | with_reducible assumption
  | (refine Tx.ex ?_; walk_at "ex"))
local macro_rules | `(tactic| walk_at "sz") => `(tactic| first
  | with_reducible assumption
  | omega
  | (refine Evl.sz_of ?_; omega)
  | (refine Evl.sz_lt ?_; omega))
local macro_rules | `(tactic| walk_at "fl") => `(tactic| first
  | rfl
  | decide +kernel)

theorem StA.names {a b : Addr} {H H' : Hp} {ns : List Nm} (h : StA a H) (hb : At H b (.lst (sV ns))) (k : Kp [a] H H') : At H' b (.lst (sV ns)) := by
  obtain ⟨i, h1, h2⟩ := h
  refine kp_lst k h2 hb fun z => ?_
  cases ns <;> simp at z
theorem strs_lay : ∀ {ns : List Nm}, (∀ n ∈ ns, n ∈ nms) → PyData.canLayAll0 (ns.map PyData.str) = true ∧ PyData.depthAll (ns.map PyData.str) = 0
  | [], _ => ⟨by simp [PyData.canLayAll0], by simp [PyData.depthAll]⟩
  | n :: ns, h => by
    have a := strs_lay fun x m => h x (List.mem_cons_of_mem _ m)
    have b : ∀ z ∈ nms, PyData.canLay0 (.str z) = true := by decide +kernel
    exact ⟨by simp only [List.map_cons, PyData.canLayAll0, b n (h n List.mem_cons_self), a.1, Bool.and_true], by simp only [List.map_cons, PyData.depthAll, PyData.depth, a.2]; rfl⟩
theorem strs_shaped {ns : List Nm} (h : ∀ n ∈ ns, n ∈ nms) : SeqAt.shaped (.list (ns.map PyData.str)) = true := by
  have a := strs_lay h
  have d2 : PyData.depth (.list (ns.map PyData.str)) ≤ 64 := by simp only [PyData.depth, a.2]; omega
  simp only [SeqAt.shaped, PyData.canLay0, a.1, Bool.true_and]
  exact decide_eq_true d2
theorem strs_dp {K : PySem.W.Frag} {H : Hp} : ∀ ns : List Nm, DpAll K H (sV ns) (ns.map PyData.str)
  | [] => .nil
  | n :: ns => .cons (.str n) (strs_dp ns)
theorem g_neNilS {K : PySem.W.Frag} {H : Hp} {Q : VK} {a e : Addr} {ns : List Nm} (h : At H a (.lst (sV ns))) (kd : ∀ n ∈ ns, n ∈ nms) (he : At H e (.lst [])) (q : Q (.bl (!decide (ns = []))) H) : rNeD K (.ref a) (.ref e) H Q := by
  refine ⟨.list (ns.map PyData.str), .list [], .lst h.sqL (strs_dp ns), .lst he.sqL .nil, strs_shaped kd, nil_shaped.2, ?_⟩
  cases ns with
  | nil => simpa [PyData.eqv, PyData.eqvAll] using q
  | cons l ls => simpa [PyData.eqv, PyData.eqvAll] using q
theorem g_eqNilS {K : PySem.W.Frag} {H : Hp} {Q : VK} {a e : Addr} {ns : List Nm} (h : At H a (.lst (sV ns))) (kd : ∀ n ∈ ns, n ∈ nms) (he : At H e (.lst [])) (q : Q (.bl (decide (ns = []))) H) : rEqD K (.ref a) (.ref e) H Q := by
  refine ⟨.list (ns.map PyData.str), .list [], .lst h.sqL (strs_dp ns), .lst he.sqL .nil, strs_shaped kd, nil_shaped.2, ?_⟩
  cases ns with
  | nil => simpa [PyData.eqv, PyData.eqvAll] using q
  | cons l ls => simpa [PyData.eqv, PyData.eqvAll] using q
def tsz : Nat → Nat
  | 0 => 0
  | d + 1 => 1 + 3 * tsz d
section
variable {P : Program} {w : World} {K : PySem.W.Frag} {mg : Str → Option Value} {base : Heap}
def sp_law_tree (d : Nat) : Sp := fun vs H Q _ => ∃ (sa ba : Addr) (bs : List Nm) (dp : Int), vs = [.ref sa, .ref ba, .int dp] ∧ dp ≤ (d : Int) ∧ 1 ≤ dp ∧ StA sa H ∧ At H ba (.lst (sV bs)) ∧ bs.length ≤ 100 ∧ (∀ n ∈ bs, n ∈ nms) ∧
  ∀ t u H', TrAt t u H' → t.ok bs → t.deep ≤ d → t.size ≤ tsz d → Kp [sa] H H' → StA sa H' → Q u H'
abbrev N_law_tree : List Str := ["_law_state", "_law_boxes", "_law_deep", "_law_way", "_law_some", "_law_one", "_law_other"]
theorem sc_law_tree : FnScope N_law_tree ["_law_state", "_law_boxes", "_law_deep"] (defScope s_law_tree) := ⟨rfl, rfl, rfl, by decide +kernel, rfl, by decide +kernel, by decide +kernel⟩
theorem ok_law_tree (T : TX w K mg)  (d : Nat) : Fn P w K mg base CX0 (d + 2) "_law_tree" ["_law_state", "_law_boxes", "_law_deep"] (sp_law_tree d) := by
  have f_law_next := ok_law_next (P := P) (base := base) T
  induction d with
  | zero =>
    obtain ⟨fd, F⟩ := T.d_law_tree
    refine mk_fn F T.g_law_tree sc_law_tree (fun vs H Q E h => by obtain ⟨_, _, _, _, rfl, _⟩ := h; rfl) (fun _ _ _ _ _ _ us hl => match us, hl with | [_, _, _], _ => rfl) (fun cdv A outer s H vs Q E hr h => ?_)
    obtain ⟨sa, ba, bs, dp, rfl, hdp, hd1, hs, hb, hbl, hbn, hq⟩ := h
    omega
  | succ d f_law_tree =>
    obtain ⟨fd, F⟩ := T.d_law_tree
    refine mk_fn F T.g_law_tree sc_law_tree (fun vs H Q E h => by obtain ⟨_, _, _, _, rfl, _⟩ := h; rfl) (fun _ _ _ _ _ _ us hl => match us, hl with | [_, _, _], _ => rfl) (fun cdv A outer s H vs Q E hr h => ?_)
    obtain ⟨sa, ba, bs, dp, rfl, hdp, hd1, hs, hb, hbl, hbn, hq⟩ := h
    have hu := hu_of hr
    refine ⟨(tSeq (tAsg (tCall sp_law_next [] E0 (tCons (tVar 0) (tCons (tC (.int 10)) tNil))) (gName 3)) (tSeq (tIfS (tOr (tTest (tOp rEq (tVar 2) (tC (.int 1)))) (tTest (tOp rLtI (tVar 3) (tC (.int 4))))) (tSeq (tAsg (tLst (tCons (tTup (tCons (tC (.str "num")) (tCons (tCall sp_law_next [] E0 (tCons (tVar 0) (tCons (tC (.int 100)) tNil))) tNil))) (tCons (tTup (tCons (tC (.str "load")) tNil)) (tCons (tTup (tCons (tC (.str "now")) tNil)) tNil)))) (gName 4)) (tSeq (tIfS (tAnd (tTest (tOp (rNeD K) (tVar 1) (tLst tNil))) (tTest (tOp rNe (tVar 3) (tC (.int 1))))) (tRet (tTup (tCons (tC (.str "box")) (tCons (tOp (rIxL K) (tVar 1) (tCall sp_law_next [] E0 (tCons (tVar 0) (tCons (tCB (Evl.rLenS K) (tCons (tVar 1) tNil)) tNil)))) tNil)))) tNext) (tRet (tOp (rIxL K) (tVar 4) (tCall sp_law_next [] E0 (tCons (tVar 0) (tCons (tC (.int 3)) tNil))))))) tNext) (tSeq (tAsg (tCall (sp_law_tree d) [] E0 (tCons (tVar 0) (tCons (tVar 1) (tCons (tOp rSubI (tVar 2) (tC (.int 1))) tNil)))) (gName 5)) (tSeq (tAsg (tCall (sp_law_tree d) [] E0 (tCons (tVar 0) (tCons (tVar 1) (tCons (tOp rSubI (tVar 2) (tC (.int 1))) tNil)))) (gName 6)) (tSeq (tIfS (tTest (tOp rEq (tVar 3) (tC (.int 9)))) (tRet (tTup (tCons (tC (.str "pick")) (tCons (tVar 5) (tCons (tVar 6) (tCons (tCall (sp_law_tree d) [] E0 (tCons (tVar 0) (tCons (tVar 1) (tCons (tOp rSubI (tVar 2) (tC (.int 1))) tNil)))) tNil)))))) tNext) (tRet (tTup (tCons (tOp (rIxL K) (tLst (tCons (tC (.str "plus")) (tCons (tC (.str "minus")) (tCons (tC (.str "less")) (tCons (tC (.str "same")) (tCons (tC (.str "times")) tNil)))))) (tOp rSubI (tVar 3) (tC (.int 4)))) (tCons (tVar 5) (tCons (tVar 6) tNil)))))))))),
      (pss_cons (ps_set (i := 3) sc_law_tree.nd rfl (Or.inl rfl) (f_law_next.ex.elim fun _ q => q.elim fun _ q => pe_call q.1 (hr.mono (by omega)) (by rfl) q.2.1 q.2.2.1 q.2.2.2 .nil pass0 (pa_cons (pv 0) (pa_cons pe_int pa_nil))))
      (pss_cons (ps_if (PW.pt (pw_or (pt_cmpR op_eq (pv 2) pe_int (nomark _)) (pw_or1 (pt_cmpR op_lt (pv 3) pe_int (nomark _))))) (pss_cons (ps_set (i := 4) sc_law_tree.nd rfl (Or.inl rfl) (pe_lst (pa_cons (pe_tup (pa_cons pe_str (pa_cons (f_law_next.ex.elim fun _ q => q.elim fun _ q => pe_call q.1 (hr.mono (by omega)) (by rfl) q.2.1 q.2.2.1 q.2.2.2 .nil pass0 (pa_cons (pv 0) (pa_cons pe_int pa_nil))) pa_nil))) (pa_cons (pe_tup (pa_cons pe_str pa_nil)) (pa_cons (pe_tup (pa_cons pe_str pa_nil)) pa_nil)))))
      (pss_cons (ps_if (PW.pt (pw_and (pt_cmpR (op_neD hr.units) (pv 1) (pe_lst pa_nil) (nomark _)) (pw_and1 (pt_cmpR op_ne (pv 3) pe_int (nomark _))))) (pss_one (ps_ret (pe_tup (pa_cons pe_str (pa_cons (pe_ix ix_list (pv 1) (f_law_next.ex.elim fun _ q => q.elim fun _ q => pe_call q.1 (hr.mono (by omega)) (by rfl) q.2.1 q.2.2.1 q.2.2.2 .nil pass0 (pa_cons (pv 0) (pa_cons (pe_callB cl_len (by rfl) T.b_len bt_len (pa_cons (pv 1) pa_nil)) pa_nil))) (fun _ _ => rfl)) pa_nil))))) pss_nil)
      (pss_one (ps_ret (pe_ix ix_list (pv 4) (f_law_next.ex.elim fun _ q => q.elim fun _ q => pe_call q.1 (hr.mono (by omega)) (by rfl) q.2.1 q.2.2.1 q.2.2.2 .nil pass0 (pa_cons (pv 0) (pa_cons pe_int pa_nil))) (fun _ _ => rfl)))))) pss_nil)
      (pss_cons (ps_set (i := 5) sc_law_tree.nd rfl (Or.inl rfl) (f_law_tree.ex.elim fun _ q => q.elim fun _ q => pe_call q.1 (hr.mono (by omega)) (by rfl) q.2.1 q.2.2.1 q.2.2.2 .nil pass0 (pa_cons (pv 0) (pa_cons (pv 1) (pa_cons (pe_op op_sub (pv 2) pe_int) pa_nil)))))
      (pss_cons (ps_set (i := 6) sc_law_tree.nd rfl (Or.inl rfl) (f_law_tree.ex.elim fun _ q => q.elim fun _ q => pe_call q.1 (hr.mono (by omega)) (by rfl) q.2.1 q.2.2.1 q.2.2.2 .nil pass0 (pa_cons (pv 0) (pa_cons (pv 1) (pa_cons (pe_op op_sub (pv 2) pe_int) pa_nil)))))
      (pss_cons (ps_if (pt_cmpR op_eq (pv 3) pe_int (nomark _)) (pss_one (ps_ret (pe_tup (pa_cons pe_str (pa_cons (pv 5) (pa_cons (pv 6) (pa_cons (f_law_tree.ex.elim fun _ q => q.elim fun _ q => pe_call q.1 (hr.mono (by omega)) (by rfl) q.2.1 q.2.2.1 q.2.2.2 .nil pass0 (pa_cons (pv 0) (pa_cons (pv 1) (pa_cons (pe_op op_sub (pv 2) pe_int) pa_nil)))) pa_nil))))))) pss_nil)
      (pss_one (ps_ret (pe_tup (pa_cons (pe_ix ix_list (pe_lst (pa_cons pe_str (pa_cons pe_str (pa_cons pe_str (pa_cons pe_str (pa_cons pe_str pa_nil)))))) (pe_op op_sub (pv 3) pe_int) (fun _ _ => rfl)) (pa_cons (pv 5) (pa_cons (pv 6) pa_nil))))))))))), ?_⟩
    refine g_start (σ' := [some _, some _, some _, none, none, none, none]) rfl ?_
    refine g_seq (g_asg (g_call (g_cons (g_v0 (g_cons (g_c (g_nil ?_)))))))
    refine ⟨sa, 10, rfl, hs, by omega, by omega, fun way H1 w0 w10 k1 s1 => ?_⟩
    have b1 := hs.names hb k1
    refine g_n3 (g_seq (g_ifs (g_or (g_tst (g_op (g_v2 (g_c (g_eqI (g_k ?_)))))))))
    have leaf : ∀ H1, Kp [sa] H H1 → StA sa H1 → ∀ u H2, Ex H1 H2 → (∃ t : Tr, TrAt t u H2 ∧ t.ok bs ∧ t.deep = 1 ∧ t.size = 1) → Q u H2 := fun H1 k1 s1 u H2 e2 ⟨t, t1, t2, t3, t4⟩ => hq t u H2 t1 t2 (by omega) (by rw [t4]; unfold tsz; omega) (k1.trans (kp_ex e2)) (s1.ex e2)
    by_cases h1 : dp = 1
    · refine g_ifD1 (h1) (g_iteT (g_seq (g_asg (g_lst (g_cons (g_tup (g_cons (g_c (g_cons (g_call (g_cons (g_v0 (g_cons (g_c (g_nil ?_)))))))))))))))
      refine ⟨sa, 100, rfl, s1, by omega, by omega, fun n H2 n0 n1 k2 s2 => ?_⟩
      have b2 := s1.names b1 k2
      refine g_nil ?_
      refine g_tupN (by simp) (fun p1 H3 np1 e3 t1 => ?_)
      refine g_cons (g_tup (g_cons (g_c (g_nil ?_))))
      refine g_tupN (by simp) (fun p2 H4 np2 e4 t2 => ?_)
      refine g_cons (g_tup (g_cons (g_c (g_nil ?_))))
      refine g_tupN (by simp) (fun p3 H5 np3 e5 t3 => ?_)
      refine g_nil ?_
      refine g_lstN (by simp) (fun L H6 nL e6 hL => ?_)
      refine g_n4 (g_seq (g_ifs (g_and (g_tst (g_op (g_v1 (g_lst (g_nil ?_))))))))
      refine g_lstN (by simp) (fun em H7 nem e7 hem => ?_)
      have e27 := e3.trans (e4.trans (e5.trans (e6.trans e7)))
      have s7 := s2.ex e27
      have b7 : At H7 ba (.lst (sV bs)) := b2.ex e27
      have k07 := (k1.trans k2).trans (kp_ex e27)
      have L7 : At H7 L (.lst [.ref p1, .ref p2, .ref p3]) := hL.ex e7

      refine g_neNilS b7 hbn hem ?_
      by_cases hbe : bs = []
      · refine g_k (g_ifN0 (hbe) (g_iteF (g_next (g_ret (g_op (g_v4 (g_call (g_cons (g_v0 (g_cons (g_c (g_nil ?_))))))))))))
        refine ⟨sa, 3, rfl, s7, by omega, by omega, fun j H9 j0 j3 k9 s9 => ?_⟩
        have t9 := StA.txk s7 k9
        have L9 : At H9 L (.lst [.ref p1, .ref p2, .ref p3]) := by
          obtain ⟨i9, _, z9⟩ := id s7
          exact kp_lst k9 z9 L7 (by intro z; simp at z)
        have k09 := (k07).trans k9

        have jc : j = 0 ∨ j = 1 ∨ j = 2 := by omega
        rcases jc with rfl | rfl | rfl
        · refine g_ixL L9 (show atI _ _ = some _ from rfl) ?_
          exact leaf H9 k09 s9 _ H9 (Evl.Ex.refl _) ⟨.num n, ⟨p1, rfl, (t1.ex (e4.trans (e5.trans (e6.trans e7)))).tx t9⟩, ⟨n0, n1⟩, rfl, rfl⟩
        · refine g_ixL L9 (show atI _ _ = some _ from rfl) ?_
          exact leaf H9 k09 s9 _ H9 (Evl.Ex.refl _) ⟨.load, ⟨p2, rfl, (t2.ex (e5.trans (e6.trans e7))).tx t9⟩, trivial, rfl, rfl⟩
        · refine g_ixL L9 (show atI _ _ = some _ from rfl) ?_
          exact leaf H9 k09 s9 _ H9 (Evl.Ex.refl _) ⟨.now, ⟨p3, rfl, (t3.ex (e6.trans e7)).tx t9⟩, trivial, rfl, rfl⟩
      ·
        refine g_k (g_ifN1 (hbe) (g_tst (g_op (g_v3 (g_c (g_neI (g_k ?_)))))))
        by_cases hw1 : way = 1
        · refine g_ifN0 (hw1) (g_next (g_ret (g_op (g_v4 (g_call (g_cons (g_v0 (g_cons (g_c (g_nil ?_))))))))))
          refine ⟨sa, 3, rfl, s7, by omega, by omega, fun j H9 j0 j3 k9 s9 => ?_⟩
          have t9 := StA.txk s7 k9
          have L9 : At H9 L (.lst [.ref p1, .ref p2, .ref p3]) := by
            obtain ⟨i9, _, z9⟩ := id s7
            exact kp_lst k9 z9 L7 (by intro z; simp at z)
          have k09 := (k07).trans k9

          have jc : j = 0 ∨ j = 1 ∨ j = 2 := by omega
          rcases jc with rfl | rfl | rfl
          · refine g_ixL L9 (show atI _ _ = some _ from rfl) ?_
            exact leaf H9 k09 s9 _ H9 (Evl.Ex.refl _) ⟨.num n, ⟨p1, rfl, (t1.ex (e4.trans (e5.trans (e6.trans e7)))).tx t9⟩, ⟨n0, n1⟩, rfl, rfl⟩
          · refine g_ixL L9 (show atI _ _ = some _ from rfl) ?_
            exact leaf H9 k09 s9 _ H9 (Evl.Ex.refl _) ⟨.load, ⟨p2, rfl, (t2.ex (e5.trans (e6.trans e7))).tx t9⟩, trivial, rfl, rfl⟩
          · refine g_ixL L9 (show atI _ _ = some _ from rfl) ?_
            exact leaf H9 k09 s9 _ H9 (Evl.Ex.refl _) ⟨.now, ⟨p3, rfl, (t3.ex (e6.trans e7)).tx t9⟩, trivial, rfl, rfl⟩
        ·
          refine g_ifN1 (hw1) (g_ret (g_tup (g_cons (g_c (g_cons (g_op (g_v1 (g_call (g_cons (g_v0 (g_cons (g_cb (g_cons (g_v1 (g_nil (g_lnL (by walk_at "hx") (g_nil ?_)))))))))))))))))
          have hpos : 0 < bs.length := List.length_pos_iff.mpr hbe
          refine ⟨sa, _, rfl, s7, by simp; omega, by simp; omega, fun j H9 j0 j3 k9 s9 => ?_⟩
          have b9 := s7.names b7 k9
          obtain ⟨i, rfl⟩ := Int.eq_ofNat_of_zero_le j0
          have hi : i < bs.length := by simpa using j3

          refine g_ixL (v := .str bs[i]) b9 (at_nat (by rw [List.getElem?_map, List.getElem?_eq_getElem hi]; rfl)) ?_
          refine g_nil ?_
          refine g_tupN (by simp) (fun q H10 nq e10 hq10 => ?_)
          exact leaf H9 (k07.trans k9) s9 _ H10 e10 ⟨.box bs[i], ⟨q, rfl, hq10⟩, List.getElem_mem hi, rfl, rfl⟩
    ·
      refine g_ifD0 (h1) (g_tst (g_op (g_v3 (g_c (g_I0 (g_k ?_))))))
      by_cases h2 : way < 4
      · refine g_ifD1 (h2) (g_seq (g_asg (g_lst (g_cons (g_tup (g_cons (g_c (g_cons (g_call (g_cons (g_v0 (g_cons (g_c (g_nil ?_))))))))))))))
        refine ⟨sa, 100, rfl, s1, by omega, by omega, fun n H2 n0 n1 k2 s2 => ?_⟩
        have b2 := s1.names b1 k2
        refine g_nil ?_
        refine g_tupN (by simp) (fun p1 H3 np1 e3 t1 => ?_)
        refine g_cons (g_tup (g_cons (g_c (g_nil ?_))))
        refine g_tupN (by simp) (fun p2 H4 np2 e4 t2 => ?_)
        refine g_cons (g_tup (g_cons (g_c (g_nil ?_))))
        refine g_tupN (by simp) (fun p3 H5 np3 e5 t3 => ?_)
        refine g_nil ?_
        refine g_lstN (by simp) (fun L H6 nL e6 hL => ?_)
        refine g_n4 (g_seq (g_ifs (g_and (g_tst (g_op (g_v1 (g_lst (g_nil ?_))))))))
        refine g_lstN (by simp) (fun em H7 nem e7 hem => ?_)
        have e27 := e3.trans (e4.trans (e5.trans (e6.trans e7)))
        have s7 := s2.ex e27
        have b7 : At H7 ba (.lst (sV bs)) := b2.ex e27
        have k07 := (k1.trans k2).trans (kp_ex e27)
        have L7 : At H7 L (.lst [.ref p1, .ref p2, .ref p3]) := hL.ex e7

        refine g_neNilS b7 hbn hem ?_
        by_cases hbe : bs = []
        · refine g_k (g_ifN0 (hbe) (g_iteF (g_next (g_ret (g_op (g_v4 (g_call (g_cons (g_v0 (g_cons (g_c (g_nil ?_))))))))))))
          refine ⟨sa, 3, rfl, s7, by omega, by omega, fun j H9 j0 j3 k9 s9 => ?_⟩
          have t9 := StA.txk s7 k9
          have L9 : At H9 L (.lst [.ref p1, .ref p2, .ref p3]) := by
            obtain ⟨i9, _, z9⟩ := id s7
            exact kp_lst k9 z9 L7 (by intro z; simp at z)
          have k09 := (k07).trans k9

          have jc : j = 0 ∨ j = 1 ∨ j = 2 := by omega
          rcases jc with rfl | rfl | rfl
          · refine g_ixL L9 (show atI _ _ = some _ from rfl) ?_
            exact leaf H9 k09 s9 _ H9 (Evl.Ex.refl _) ⟨.num n, ⟨p1, rfl, (t1.ex (e4.trans (e5.trans (e6.trans e7)))).tx t9⟩, ⟨n0, n1⟩, rfl, rfl⟩
          · refine g_ixL L9 (show atI _ _ = some _ from rfl) ?_
            exact leaf H9 k09 s9 _ H9 (Evl.Ex.refl _) ⟨.load, ⟨p2, rfl, (t2.ex (e5.trans (e6.trans e7))).tx t9⟩, trivial, rfl, rfl⟩
          · refine g_ixL L9 (show atI _ _ = some _ from rfl) ?_
            exact leaf H9 k09 s9 _ H9 (Evl.Ex.refl _) ⟨.now, ⟨p3, rfl, (t3.ex (e6.trans e7)).tx t9⟩, trivial, rfl, rfl⟩
        ·
          refine g_k (g_ifN1 (hbe) (g_tst (g_op (g_v3 (g_c (g_neI (g_k ?_)))))))
          by_cases hw1 : way = 1
          · refine g_ifN0 (hw1) (g_next (g_ret (g_op (g_v4 (g_call (g_cons (g_v0 (g_cons (g_c (g_nil ?_))))))))))
            refine ⟨sa, 3, rfl, s7, by omega, by omega, fun j H9 j0 j3 k9 s9 => ?_⟩
            have t9 := StA.txk s7 k9
            have L9 : At H9 L (.lst [.ref p1, .ref p2, .ref p3]) := by
              obtain ⟨i9, _, z9⟩ := id s7
              exact kp_lst k9 z9 L7 (by intro z; simp at z)
            have k09 := (k07).trans k9

            have jc : j = 0 ∨ j = 1 ∨ j = 2 := by omega
            rcases jc with rfl | rfl | rfl
            · refine g_ixL L9 (show atI _ _ = some _ from rfl) ?_
              exact leaf H9 k09 s9 _ H9 (Evl.Ex.refl _) ⟨.num n, ⟨p1, rfl, (t1.ex (e4.trans (e5.trans (e6.trans e7)))).tx t9⟩, ⟨n0, n1⟩, rfl, rfl⟩
            · refine g_ixL L9 (show atI _ _ = some _ from rfl) ?_
              exact leaf H9 k09 s9 _ H9 (Evl.Ex.refl _) ⟨.load, ⟨p2, rfl, (t2.ex (e5.trans (e6.trans e7))).tx t9⟩, trivial, rfl, rfl⟩
            · refine g_ixL L9 (show atI _ _ = some _ from rfl) ?_
              exact leaf H9 k09 s9 _ H9 (Evl.Ex.refl _) ⟨.now, ⟨p3, rfl, (t3.ex (e6.trans e7)).tx t9⟩, trivial, rfl, rfl⟩
          ·
            refine g_ifN1 (hw1) (g_ret (g_tup (g_cons (g_c (g_cons (g_op (g_v1 (g_call (g_cons (g_v0 (g_cons (g_cb (g_cons (g_v1 (g_nil (g_lnL (by walk_at "hx") (g_nil ?_)))))))))))))))))
            have hpos : 0 < bs.length := List.length_pos_iff.mpr hbe
            refine ⟨sa, _, rfl, s7, by simp; omega, by simp; omega, fun j H9 j0 j3 k9 s9 => ?_⟩
            have b9 := s7.names b7 k9
            obtain ⟨i, rfl⟩ := Int.eq_ofNat_of_zero_le j0
            have hi : i < bs.length := by simpa using j3

            refine g_ixL (v := .str bs[i]) b9 (at_nat (by rw [List.getElem?_map, List.getElem?_eq_getElem hi]; rfl)) ?_
            refine g_nil ?_
            refine g_tupN (by simp) (fun q H10 nq e10 hq10 => ?_)
            exact leaf H9 (k07.trans k9) s9 _ H10 e10 ⟨.box bs[i], ⟨q, rfl, hq10⟩, List.getElem_mem hi, rfl, rfl⟩
      ·
        refine g_ifD0 (h2) (g_next (g_seq (g_asg (g_call (g_cons (g_v0 (g_cons (g_v1 (g_cons (g_op (g_v2 (g_c (g_I0 (g_nil ?_))))))))))))))
        refine ⟨sa, ba, bs, dp - 1, rfl, by omega, by omega, s1, b1, hbl, hbn, fun t1 u1 H2 a1 o1 d1 z1 k2 s2 => ?_⟩
        have b2 := s1.names b1 k2
        refine g_n5 (g_seq (g_asg (g_call (g_cons (g_v0 (g_cons (g_v1 (g_cons (g_op (g_v2 (g_c (g_I0 (g_nil ?_)))))))))))))
        refine ⟨sa, ba, bs, dp - 1, rfl, by omega, by omega, s2, b2, hbl, hbn, fun t2 u2 H3 a2 o2 d2 z2 k3 s3 => ?_⟩
        have b3 := s2.names b2 k3
        refine g_n6 (g_seq (g_ifs (g_tst (g_op (g_v3 (g_c (g_eqI (g_k ?_))))))))
        by_cases h9 : way = 9
        · refine g_ifD1 (h9) (g_ret (g_tup (g_cons (g_c (g_cons (g_v5 (g_cons (g_v6 (g_cons (g_call (g_cons (g_v0 (g_cons (g_v1 (g_cons (g_op (g_v2 (g_c (g_I0 (g_nil ?_))))))))))))))))))))
          refine ⟨sa, ba, bs, dp - 1, rfl, by omega, by omega, s3, b3, hbl, hbn, fun t3 u3 H4 a3 o3 d3 z3 k4 s4 => ?_⟩
          refine g_nil ?_
          refine g_tupN (by simp) (fun q H5 nq e5 hq5 => ?_)
          exact hq (.pick t1 t2 t3) _ H5 ⟨q, u1, u2, u3, rfl, hq5, ((a1.tx (s2.txk k3)).tx (s3.txk k4)).ex e5, (a2.tx (s3.txk k4)).ex e5, a3.ex e5⟩ ⟨o1, o2, o3⟩ (by simp only [Tr.deep]; omega) (by simp only [Tr.size, tsz]; omega) ((((k1.trans k2).trans k3).trans k4).trans (kp_ex e5)) (s4.ex e5)
        ·
          refine g_ifD0 (h9) (g_next (g_ret (g_tup (g_cons (g_op (g_lst (g_cons (g_c (g_cons (g_c (g_cons (g_c (g_cons (g_c (g_cons (g_c (g_nil ?_)))))))))))))))))
          refine g_lstN (by simp) (fun L H4 nL e4 hL => ?_)
          refine g_op (g_v3 (g_c (g_I0 ?_)))
          have ho : ∃ o : Op, atI [V.str "plus", V.str "minus", V.str "less", V.str "same", V.str "times"] (way - 4) = some (.str o.word) := by
            have wc : way = 4 ∨ way = 5 ∨ way = 6 ∨ way = 7 ∨ way = 8 := by omega
            rcases wc with rfl | rfl | rfl | rfl | rfl
            · exact ⟨.plus, rfl⟩
            · exact ⟨.minus, rfl⟩
            · exact ⟨.less, rfl⟩
            · exact ⟨.same, rfl⟩
            · exact ⟨.times, rfl⟩
          obtain ⟨o, hoe⟩ := ho
          refine g_ixL hL hoe ?_
          refine g_cons (g_v5 (g_cons (g_v6 (g_nil ?_))))
          refine g_tupN (by simp) (fun q H5 nq e5 hq5 => ?_)
          exact hq (.bin o t1 t2) _ H5 ⟨q, u1, u2, rfl, hq5, (a1.tx (s2.txk k3)).ex (e4.trans e5), a2.ex (e4.trans e5)⟩ ⟨o1, o2⟩ (by simp only [Tr.deep]; omega) (by simp only [Tr.size, tsz]; omega) (((k1.trans k2).trans k3).trans (kp_ex (e4.trans e5))) (s3.ex (e4.trans e5))
end
end PM
/-! part F29 -/
namespace PM
open PySem PySem.Spec PyProof.Rows L2 PMH
open Evl (Ex)

local macro_rules | `(tactic| walk_at "ex") => `(tactic| first
  | with_reducible assumption
  | with_reducible exact Evl.Ex.refl _
  | (refine Evl.Ex.trans ?_ (by with_reducible assumption); walk_at "ex"))
local macro_rules | `(tactic| walk_at "hx") => `(tactic| first
  | with_reducible assumption
  | (refine At.ex (by with_reducible assumption) ?_; walk_at "ex")
  | (refine Fz.tx (by with_reducible assumption) ?_; walk_at "tx")
  | (refine TrAt.ex (by with_reducible assumption) ?_; walk_at "ex")
  | (refine MlAt.tx ?_ (by with_reducible assumption); walk_at "tx")
  | (refine PlAt.tx ?_ (by with_reducible assumption); walk_at "tx")
  | (refine LtAt.tx ?_ (by with_reducible assumption); walk_at "tx")
  | (refine GvAt.tx ?_ (by with_reducible assumption); walk_at "tx")
  | (refine WsAt.tx ?_ (by with_reducible assumption); walk_at "tx")
  | (refine RwAt.tx ?_ _ _ (by with_reducible assumption); walk_at "tx")
  | (refine RwsAt.tx ?_ _ _ (by with_reducible assumption); walk_at "tx")
  | (refine RuAt.tx ?_ (by with_reducible assumption); walk_at "tx")
  | (refine PrAt.tx ?_ (by with_reducible assumption); walk_at "tx"))
local macro_rules | `(tactic| walk_at "num") => `(tactic| first
  | with_reducible assumption
  | decide
  | exact Or.inl ⟨by omega, by omega⟩
  | exact Or.inr ⟨by omega, by omega⟩
  | (refine ⟨?_, ?_⟩ <;> omega)
  | (show (0 : Int) < _; omega))
local macro_rules | `(tactic| walk_at "tx") => `(tactic| first
  | with_reducible assumption
  | (refine Tx.ex ?_; walk_at "ex"))
local macro_rules | `(tactic| walk_at "sz") => `(tactic| first
  | with_reducible assumption
  | omega
  | (refine Evl.sz_of ?_; omega)
  | (refine Evl.sz_lt ?_; omega))
local macro_rules | `(tactic| walk_at "fl") => `(tactic| first
  | rfl
  | decide +kernel)

theorem cut_end {xs : List V} (hx : xs ≠ []) {k : Int} (h1 : -2 ≤ k) (h2 : k < 0) : ∃ n, cutV xs (some k) none = xs.drop n ∧ n < xs.length := by
  have l : 0 < xs.length := List.length_pos_iff.mpr hx
  unfold cutV
  rw [HT.sIx_none]
  have e : HT.sIx xs.length 0 (some k) = (k + (xs.length : Int)).toNat := if_pos h2
  rw [e]
  refine ⟨(k + (xs.length : Int)).toNat, ?_, by omega⟩
  rw [List.take_of_length_le]
  rw [List.length_drop]
  exact Nat.le_refl _
theorem wo_none_iff {R : List Addr} {H : Hp} {a : Addr} (h : wo R H a = none) : a ∈ R ∨ H a = none := by
  by_cases m : a ∈ R
  · exact .inl m
  · have h2 : (if a ∈ R then none else H a) = none := h
    rw [if_neg m] at h2
    exact .inr h2
theorem LmAt.far {d : Lm} {s : MS} {H H' : Hp} (h : LmAt d s H) {S : Addr} (k : Kp [S] H H') (n : S ∉ d.R) (t : Tx H H') : LmAt d s H' := by
  obtain ⟨us, hw, hal⟩ := h.wait
  simp only [Lm.R, List.mem_cons, not_or] at n
  obtain ⟨n1, n2, n3, n4, n5, n6⟩ := n
  exact ⟨h.self.kp k (by simpa using Ne.symm n1), h.boxes.kp k (by simpa using Ne.symm n2), h.bl, fun i a b h1 h2 => (h.bx i a b h1 h2).kp k (by simp only [List.mem_singleton]; intro z; subst z; exact n6 (List.mem_of_getElem? h1)), h.drawn.kp k (by simpa using Ne.symm n4), h.sent.kp k (by simpa using Ne.symm n5), ⟨us, hw.kp k (by simpa using Ne.symm n3), hal.imp fun _ _ z => z.tx t⟩, h.nd⟩
/-- a while with its way out told apart -/
theorem g_whileA {c : TT} {tb : TS} {σ : L2.St} {H : Hp} {nx bk ct : L2.St → Hp → Prop} {rt : VK} (X : L2.St → Hp → Prop) (W : Nat → L2.St → Hp → Prop) (h0 : ∃ m, W m σ H) (after : ∀ σ H, X σ H → nx σ H)
    (turn : (∀ σ H, X σ H → nx σ H) → ∀ m σ H, W m σ H → c σ H fun b H1 => if b = true then ∃ N : L2.St → Hp → Prop, (∀ σ' H', N σ' H' → ∃ m', m' < m ∧ W m' σ' H') ∧ tb ⟨N, rt, nx, N⟩ σ H1 else nx σ H1) : tWhile c tb ⟨nx, rt, bk, ct⟩ σ H := g_while W h0 (turn after)
section
variable {P : Program} {w : World} {K : PySem.W.Frag} {mg : Str → Option Value} {base : Heap}
def sp_law_wish : Sp := fun vs H Q _ => ∃ (sa g : Addr) (m : List Pl) (plv : V) (gs : List Gv) (us : List V) (time : Int), vs = [.ref sa, plv, .ref g, .int time] ∧ StA sa H ∧ MlAt m plv H ∧ MlOk m ∧ At H g (.lst us) ∧ Al GvAt gs us H ∧ (∀ x ∈ gs, GvOk m x) ∧ gs.length ≤ 8 ∧ (∀ i : Int, us ≠ [.int i]) ∧
  ∀ v ws H', WsAt ws v H' → WsOk m ws → Kp [sa] H H' → StA sa H' → Q v H'
abbrev N_law_wish : List Str := ["_law_state", "_law_places", "_law_given_here", "_law_time", "_law_place", "_law_boxes", "_law_way", "_law_box", "_law_m", "_law_some", "_law_name", "_law_number"]
theorem sc_law_wish : FnScope N_law_wish ["_law_state", "_law_places", "_law_given_here", "_law_time"] (defScope s_law_wish) := ⟨rfl, rfl, rfl, by decide +kernel, rfl, by decide +kernel, by decide +kernel⟩
theorem ok_law_wish (T : TX w K mg)  : Fn P w K mg base CX0 (12) "_law_wish" ["_law_state", "_law_places", "_law_given_here", "_law_time"] (sp_law_wish) := by
  have f_law_next := ok_law_next (P := P) (base := base) T
  have f_law_tree := ok_law_tree (P := P) (base := base) T 3
  have f_law_first := ok_law_first (P := P) (base := base) T
  have f_law_done := ok_law_done (P := P) (base := base) T
  obtain ⟨fd, F⟩ := T.d_law_wish
  refine mk_fn F T.g_law_wish sc_law_wish (fun vs H Q E h => by obtain ⟨_, _, _, _, _, _, _, rfl, _⟩ := h; rfl) (fun _ _ _ _ _ _ us hl => match us, hl with | [_, _, _, _], _ => rfl) (fun cdv A outer s H vs Q E hr h => ?_)
  obtain ⟨sa, g, m, plv, gs, us, time, rfl, hs, hm, hk, hg, hal, hok, hfew, hus, hq⟩ := h
  have hu := hu_of hr
  refine ⟨(tSeq (tAsg (tCall sp_law_next [] E0 (tCons (tVar 0) (tCons (tCB (Evl.rLenS K) (tCons (tVar 1) tNil)) tNil))) (gName 4)) (tSeq (tAsg (tLc (iTup K (tOp (rIxT K) (tOp (rIxT K) (tVar 1) (tVar 4)) (tC (.int 1)))) (gTup K 2 (gCons (gName 10) (gCons (gName 11) gNil))) tYes (tVar 10) [10, 11]) (gName 5)) (tSeq (tAsg (tCall sp_law_next [] E0 (tCons (tVar 0) (tCons (tC (.int 4)) tNil))) (gName 6)) (tSeq (tIfS (tOr (tTest (tOp rEq (tVar 6) (tC (.int 0)))) (tTest (tOp (rEqD K) (tVar 5) (tLst tNil)))) (tRet (tTup (tCons (tOp (rIxT K) (tOp (rIxT K) (tVar 1) (tVar 4)) (tC (.int 0))) (tCons (tCall (sp_law_tree 3) [] E0 (tCons (tVar 0) (tCons (tVar 5) (tCons (tC (.int 3)) tNil)))) tNil)))) tNext) (tSeq (tAsg (tOp (rIxL K) (tVar 5) (tCall sp_law_next [] E0 (tCons (tVar 0) (tCons (tCB (Evl.rLenS K) (tCons (tVar 5) tNil)) tNil)))) (gName 7)) (tSeq (tAsg (tCall sp_law_first [] E0 (tCons (tVar 1) (tCons (tVar 2) tNil))) (gName 8)) (tSeq (tAsg (tLst (tCons (tDGet (tOp (rIxL K) (tDGet (tVar 8) (tC (.str "boxes"))) (tVar 4)) (tVar 7)) tNil)) (gName 9)) (tSeq (tWhile (tAnd (tTest (tOp (rNeD K) (tDGet (tVar 8) (tC (.str "waiting"))) (tLst tNil))) (tAnd (tTest (tOp rLeI (tOp (rIxT K) (tOp (rIxL K) (tDGet (tVar 8) (tC (.str "waiting"))) (tC (.int 0))) (tC (.int 0))) (tVar 3))) (tTest (tOp rLtI (tCB (Evl.rLenS K) (tCons (tVar 9) tNil)) (tC (.int 40)))))) (tSeq (tDrop (tCall sp_law_done [] E0 (tCons (tVar 1) (tCons (tVar 8) (tCons (tOp (rIxL K) (tDGet (tVar 8) (tC (.str "waiting"))) (tC (.int 0))) tNil))))) (tDrop (tBM K "list" rAppend (tVar 9) (tCons (tDGet (tOp (rIxL K) (tDGet (tVar 8) (tC (.str "boxes"))) (tVar 4)) (tVar 7)) tNil))))) (tSeq (tAsg (tSl (rSlL K) (tVar 9) (tPart (tOp rSubI (tUn (rU fun i => .int (-i)) (tC (.int 1))) (tCall sp_law_next [] E0 (tCons (tVar 0) (tCons (tC (.int 2)) tNil))))) tNoPart) (gName 9)) (tRet (tTup (tCons (tOp (rIxT K) (tOp (rIxT K) (tVar 1) (tVar 4)) (tC (.int 0))) (tCons (tTup (tCons (tC (.str "same")) (tCons (tTup (tCons (tC (.str "box")) (tCons (tVar 7) tNil))) (tCons (tTup (tCons (tC (.str "num")) (tCons (tOp (rIxL K) (tVar 9) (tCall sp_law_next [] E0 (tCons (tVar 0) (tCons (tCB (Evl.rLenS K) (tCons (tVar 9) tNil)) tNil)))) tNil))) tNil)))) tNil))))))))))))),
      (pss_cons (ps_set (i := 4) sc_law_wish.nd rfl (Or.inl rfl) (f_law_next.ex.elim fun _ q => q.elim fun _ q => pe_call q.1 (hr.mono (by omega)) (by rfl) q.2.1 q.2.2.1 q.2.2.2 .nil pass0 (pa_cons (pv 0) (pa_cons (pe_callB cl_len (by rfl) T.b_len bt_len (pa_cons (pv 1) pa_nil)) pa_nil))))
      (pss_cons (ps_setLc (i := 5) (own := [("_law_name", 10), ("_law_number", 11)]) (wi := (iTup K (tOp (rIxT K) (tOp (rIxT K) (tVar 1) (tVar 4)) (tC (.int 1))))) (g := (gTup K 2 (gCons (gName 10) (gCons (gName 11) gNil)))) (tt := tYes) (te := (tVar 10)) rfl sc_law_wish.nd rfl rfl (sw_true rfl rfl rfl (by decide +kernel)) (pi_tup (pe_ix ix_tup (pe_ix ix_tup (pv 1) (pv 4) (fun _ _ => rfl)) pe_int (fun _ _ => rfl))) (blkOk_by (N := N_law_wish) (sc := defScope s_law_wish) (by decide +kernel)) (fun _ _ _ _ _ => (pg_tup rfl (pgs_cons (pg_name (i := 10) sc_law_wish.nd rfl (Or.inl rfl)) (pgs_cons (pg_name (i := 11) sc_law_wish.nd rfl (Or.inl rfl)) pgs_nil)))) (fun _ _ _ _ _ => pts_nil) (fun _ _ _ _ _ => (pv 10)))
      (pss_cons (ps_set (i := 6) sc_law_wish.nd rfl (Or.inl rfl) (f_law_next.ex.elim fun _ q => q.elim fun _ q => pe_call q.1 (hr.mono (by omega)) (by rfl) q.2.1 q.2.2.1 q.2.2.2 .nil pass0 (pa_cons (pv 0) (pa_cons pe_int pa_nil))))
      (pss_cons (ps_if (PW.pt (pw_or (pt_cmpR op_eq (pv 6) pe_int (nomark _)) (pw_or1 (pt_cmpR (op_eqD hr.units) (pv 5) (pe_lst pa_nil) (nomark _))))) (pss_one (ps_ret (pe_tup (pa_cons (pe_ix ix_tup (pe_ix ix_tup (pv 1) (pv 4) (fun _ _ => rfl)) pe_int (fun _ _ => rfl)) (pa_cons (f_law_tree.ex.elim fun _ q => q.elim fun _ q => pe_call q.1 (hr.mono (by omega)) (by rfl) q.2.1 q.2.2.1 q.2.2.2 .nil pass0 (pa_cons (pv 0) (pa_cons (pv 5) (pa_cons pe_int pa_nil)))) pa_nil))))) pss_nil)
      (pss_cons (ps_set (i := 7) sc_law_wish.nd rfl (Or.inl rfl) (pe_ix ix_list (pv 5) (f_law_next.ex.elim fun _ q => q.elim fun _ q => pe_call q.1 (hr.mono (by omega)) (by rfl) q.2.1 q.2.2.1 q.2.2.2 .nil pass0 (pa_cons (pv 0) (pa_cons (pe_callB cl_len (by rfl) T.b_len bt_len (pa_cons (pv 5) pa_nil)) pa_nil))) (fun _ _ => rfl)))
      (pss_cons (ps_set (i := 8) sc_law_wish.nd rfl (Or.inl rfl) (f_law_first.ex.elim fun _ q => q.elim fun _ q => pe_call q.1 (hr.mono (by omega)) (by rfl) q.2.1 q.2.2.1 q.2.2.2 .nil pass0 (pa_cons (pv 1) (pa_cons (pv 2) pa_nil))))
      (pss_cons (ps_set (i := 9) sc_law_wish.nd rfl (Or.inl rfl) (pe_lst (pa_cons (pe_dget hu (pe_ix ix_list (pe_dget hu (pv 8) pe_str (fun _ _ => rfl)) (pv 4) (fun _ _ => rfl)) (pv 7) (fun _ _ => rfl)) pa_nil)))
      (pss_cons (ps_while PassesOwn.never (PW.pt (pw_and (pt_cmpR (op_neD hr.units) (pe_dget hu (pv 8) pe_str (fun _ _ => rfl)) (pe_lst pa_nil) (nomark _)) (pw_and (pt_cmpR op_le (pe_ix ix_tup (pe_ix ix_list (pe_dget hu (pv 8) pe_str (fun _ _ => rfl)) pe_int (fun _ _ => rfl)) pe_int (fun _ _ => rfl)) (pv 3) (nomark _)) (pw_and1 (pt_cmpR op_lt (pe_callB cl_len (by rfl) T.b_len bt_len (pa_cons (pv 9) pa_nil)) pe_int (nomark _)))))) (pss_cons (ps_expr (f_law_done.ex.elim fun _ q => q.elim fun _ q => pe_call q.1 (hr.mono (by omega)) (by rfl) q.2.1 q.2.2.1 q.2.2.2 .nil pass0 (pa_cons (pv 1) (pa_cons (pv 8) (pa_cons (pe_ix ix_list (pe_dget hu (pv 8) pe_str (fun _ _ => rfl)) pe_int (fun _ _ => rfl)) pa_nil)))))
      (pss_one (ps_expr (pe_bm PySem.F.plainAttrs_list PySem.F.slot_list_append PySem.F.type_list_append mt_append (pv 9) (pa_cons (pe_dget hu (pe_ix ix_list (pe_dget hu (pv 8) pe_str (fun _ _ => rfl)) (pv 4) (fun _ _ => rfl)) (pv 7) (fun _ _ => rfl)) pa_nil))))))
      (pss_cons (ps_set (i := 9) sc_law_wish.nd rfl (Or.inl rfl) (pe_slice sl_list (pv 9) (po_some (pe_op op_sub (pe_un un_neg pe_int) (f_law_next.ex.elim fun _ q => q.elim fun _ q => pe_call q.1 (hr.mono (by omega)) (by rfl) q.2.1 q.2.2.1 q.2.2.2 .nil pass0 (pa_cons (pv 0) (pa_cons pe_int pa_nil))))) po_none))
      (pss_one (ps_ret (pe_tup (pa_cons (pe_ix ix_tup (pe_ix ix_tup (pv 1) (pv 4) (fun _ _ => rfl)) pe_int (fun _ _ => rfl)) (pa_cons (pe_tup (pa_cons pe_str (pa_cons (pe_tup (pa_cons pe_str (pa_cons (pv 7) pa_nil))) (pa_cons (pe_tup (pa_cons pe_str (pa_cons (pe_ix ix_list (pv 9) (f_law_next.ex.elim fun _ q => q.elim fun _ q => pe_call q.1 (hr.mono (by omega)) (by rfl) q.2.1 q.2.2.1 q.2.2.2 .nil pass0 (pa_cons (pv 0) (pa_cons (pe_callB cl_len (by rfl) T.b_len bt_len (pa_cons (pv 9) pa_nil)) pa_nil))) (fun _ _ => rfl)) pa_nil))) pa_nil)))) pa_nil)))))))))))))), ?_⟩
  refine g_start (σ' := [some _, some _, some _, some _, none, none, none, none, none, none, none, none]) rfl ?_
  obtain ⟨pc, pvs, rfl, hpc, hpal⟩ := id hm
  have hm1 := hk.one
  have hm4 := hk.most
  have hplen := hpal.len
  refine g_seq (g_asg (g_call (g_cons (g_v0 (g_cons (g_cb (g_cons (g_v1 (g_nil (g_lnT (by walk_at "hx") (g_nil ?_)))))))))))
  refine ⟨sa, _, rfl, hs, by omega, by omega, fun f H1 f0 f1 k1 s1 => ?_⟩
  obtain ⟨i, rfl⟩ := Int.eq_ofNat_of_zero_le f0
  have him : i < m.length := by omega
  have t1 := hs.txk k1
  obtain ⟨pl, hpi⟩ : ∃ pl, m[i]? = some pl := ⟨_, List.getElem?_eq_getElem him⟩
  have hpl := hk.pl pl (List.mem_of_getElem? hpi)
  obtain ⟨u, hu1, hu2⟩ := hpal.at hpi
  obtain ⟨pa, u1, u2, rfl, hpt, ⟨Tb, bvs, rfl, hbz, hbal⟩, _⟩ := id hu2
  have hpt1 := hpt.tx t1
  refine g_n4 (g_seq (g_asg (g_lcT (g_op (g_op (g_v1 (g_v4 ?_)))))))
  refine g_ixT (hpc.tx t1) (at_nat hu1) ?_
  refine g_c (g_ixT (by walk_at "hx") (show atI _ _ = some _ from rfl) ?_)
  refine lc_mapF (R := PrAt) (ds := pl.boxes) (h := fun p => .str p.1) (hbz.tx t1) (hbal.imp fun _ _ z => z.tx t1) (by have := hpl.few; omega) (fun r u H1 e h => h.tx (Tx.ex e)) (fun r hm u H2 e2 hR Y N hY => ?_) (fun BX H2 nBX e2 hBX => ?_)
  · obtain ⟨d, rfl, hd⟩ := hR
    refine g_gtup (by walk_at "hx") rfl (g_gcons (g_n10 (g_gcons (g_n11 (g_gnil (And.intro rfl (g_yes (g_iteT (g_v10 ?_)))))))))
    exact hY _ (Evl.Ex.refl _)
  · have hBX : At H2 BX (.lst (sV (pl.boxes.map (·.1)))) := by rw [sV_map]; exact hBX
    have hbn : ∀ n ∈ pl.boxes.map (·.1), n ∈ nms := hpl.bnames
    have hbl : (pl.boxes.map (·.1)).length ≤ 100 := by rw [List.length_map]; have := hpl.few; omega
    have s2 := s1.ex e2
    have k2 := k1.trans (kp_ex e2)
    refine g_n5 (g_seq (g_asg (g_call (g_cons (g_v0 (g_cons (g_c (g_nil ?_))))))))
    refine ⟨sa, 4, rfl, s2, by omega, by omega, fun way H3 w0 w4 k3 s3 => ?_⟩
    have k3' := k2.trans k3
    have t3 := hs.txk k3'
    have hBX3 := s2.names hBX k3
    have hpc3 := hpc.tx t3
    have hpt3 := hpt.tx t3
    refine g_n6 (g_seq (g_ifs (g_or (g_tst (g_op (g_v6 (g_c (g_eqI (g_k ?_)))))))))
    by_cases hw : way = 0
    · refine g_ifD1 (hw) (g_iteT (g_ret (g_tup (g_cons (g_op (g_op (g_v1 (g_v4 ?_))))))))
      refine g_ixT hpc3 (at_nat hu1) ?_
      refine g_c (g_ixT (by walk_at "hx") (show atI _ _ = some _ from rfl) (g_cons (g_call (g_cons (g_v0 (g_cons (g_v5 (g_cons (g_c (g_nil ?_))))))))))
      refine ⟨sa, BX, pl.boxes.map (·.1), 3, rfl, by omega, by omega, s3, hBX3, hbl, hbn, fun t u Hz tz okz dz zz kz sz => ?_⟩
      refine g_nil ?_
      refine g_tupN (by simp) (fun q Hy nq ey hq' => ?_)
      exact hq _ (pl.name, t) Hy ⟨q, u, rfl, hq', tz.ex ey⟩ ⟨i, pl, hpi, rfl, okz, dz, (show t.size ≤ 30 by simp only [tsz] at zz; omega)⟩ ((k3'.trans kz).trans (kp_ex ey)) (sz.ex ey)
    ·
      refine g_ifD0 (hw) (g_tst (g_op (g_v5 (g_lst (g_nil ?_)))))
      refine g_lstN (by simp) (fun em H4 nem e4 hem => ?_)
      have hBX4 := hBX3.ex e4
      have s4 := s3.ex e4
      have k4 := k3'.trans (kp_ex e4)
      have t4 := hs.txk k4
      have hpc4 := hpc.tx t4
      have hpt4 := hpt.tx t4

      refine g_eqNilS hBX4 hbn hem ?_
      by_cases hbe : pl.boxes.map (·.1) = []
      · refine g_k (g_ifD1 (hbe) (g_ret (g_tup (g_cons (g_op (g_op (g_v1 (g_v4 ?_))))))))
        refine g_ixT hpc4 (at_nat hu1) ?_
        refine g_c (g_ixT (by walk_at "hx") (show atI _ _ = some _ from rfl) (g_cons (g_call (g_cons (g_v0 (g_cons (g_v5 (g_cons (g_c (g_nil ?_))))))))))
        refine ⟨sa, BX, pl.boxes.map (·.1), 3, rfl, by omega, by omega, s4, hBX4, hbl, hbn, fun t u Hz tz okz dz zz kz sz => ?_⟩
        refine g_nil ?_
        refine g_tupN (by simp) (fun q Hy nq ey hq' => ?_)
        exact hq _ (pl.name, t) Hy ⟨q, u, rfl, hq', tz.ex ey⟩ ⟨i, pl, hpi, rfl, okz, dz, (show t.size ≤ 30 by simp only [tsz] at zz; omega)⟩ ((k4.trans kz).trans (kp_ex ey)) (sz.ex ey)
      ·
        have blen : 0 < (pl.boxes.map (·.1)).length := List.length_pos_iff.mpr hbe
        refine g_k (g_ifD0 (hbe) (g_next (g_seq (g_asg (g_op (g_v5 (g_call (g_cons (g_v0 (g_cons (g_cb (g_cons (g_v5 (g_nil (g_lnL (by walk_at "hx") (g_nil ?_))))))))))))))))
        refine ⟨sa, _, rfl, s4, by simp; simpa using blen, by simp; have := hpl.few; omega, fun jf B j0 j1 k5 s5 => ?_⟩
        have kB := k4.trans k5
        have tB := hs.txk kB
        have hBX5 := s4.names hBX4 k5
        obtain ⟨bi, rfl⟩ := Int.eq_ofNat_of_zero_le j0
        have hbi : bi < (pl.boxes.map (·.1)).length := by simpa using j1
        generalize hbnm : (pl.boxes.map (·.1))[bi] = bn
        have hbm : bn ∈ pl.boxes.map (·.1) := by rw [← hbnm]; exact List.getElem_mem hbi

        refine g_ixL (v := .str bn) hBX5 (at_nat (by rw [List.getElem?_map, List.getElem?_eq_getElem hbi, hbnm]; rfl)) ?_
        have gsa : g ≠ sa := by
          obtain ⟨i9, _, z9⟩ := id hs
          exact hg.ne z9 fun z => (by
            have := HO.lst.inj z
            exact hus i9 this)
        have hgB : At B g (.lst us) := hg.kp kB (by simpa using gsa)
        have hmB : MlAt m (.ref pc) B := hm.tx tB
        have hptB := hpt.tx tB
        have hpcB := hpc.tx tB
        refine g_n7 (g_seq (g_asg (g_call (g_cons (g_v1 (g_cons (g_v2 (g_nil ?_))))))))
        refine ⟨m, .ref pc, g, gs, us, rfl, hmB, hk, hgB, hal.imp fun _ _ z => z.tx tB, hok, hfew, fun lm H6 x6 fr6 L6 => ?_⟩
        have mo6 := MOk.start hk (lts_ok hok (ns := List.range gs.length) (fun n hn => List.mem_range.mp hn)) (by unfold ltsOf; rw [List.length_map, List.length_range]; exact hfew)
        generalize startOf m (ltsOf m gs (List.range gs.length)) = st at L6 mo6
        have hself6 := L6.self
        obtain ⟨b6, hb6⟩ : ∃ b, st.boxes[i]? = some b := ⟨_, List.getElem?_eq_getElem (show i < st.boxes.length by rw [mo6.bl]; exact him)⟩
        obtain ⟨ba6, hba6⟩ : ∃ a, lm.bs[i]? = some a := ⟨_, List.getElem?_eq_getElem (show i < lm.bs.length by rw [L6.bl, mo6.bl]; exact him)⟩
        have bx6 := mo6.bx i b6 pl hb6 hpi
        refine g_n8 (g_seq (g_asg (g_lst (g_cons (g_dget (g_op (g_dget (g_v8 (g_c ?_)))))))))
        refine g_dgetS hself6 L6.bv ?_
        refine g_v4 ?_
        refine g_ixL (v := .ref ba6) L6.boxes (at_nat (by rw [List.getElem?_map, hba6]; rfl)) ?_
        refine g_v7 ?_
        refine g_dgetS (L6.bx i ba6 b6 hba6 hb6) (valV_bxK (by rw [bx6.1]; exact hbm)) ?_
        refine g_nil ?_
        refine g_lstN (by simp) (fun S H7 nS e7 hS => ?_)
        have BS : B S = none := fresh_back x6 nS
        have SsaB : S ≠ sa := by
          obtain ⟨i9, _, z9⟩ := id s5
          exact (z9.ne0 BS).symm
        have nSR : S ∉ lm.R := fun z => L6.nn S z nS
        refine g_n9 (g_seq ?_)
        refine g_whileA (fun σ' H' => ∃ ns : List Int, σ' = [some (.ref sa), some (.ref pc), some (.ref g), some (.int time), some (.int (i : Nat)), some (.ref BX), some (.int way), some (.str bn), some (.ref lm.m), some (.ref S), none, none] ∧ Ex B H' ∧ At H' S (.lst (isV ns)) ∧ (∀ n ∈ ns, 0 ≤ n ∧ n < 100) ∧ ns ≠ [] ∧ ns.length ≤ 40) (fun k σ' H' => ∃ (lm' : Lm) (s' : MS) (ns : List Int), σ' = [some (.ref sa), some (.ref pc), some (.ref g), some (.int time), some (.int (i : Nat)), some (.ref BX), some (.int way), some (.str bn), some (.ref lm.m), some (.ref S), none, none] ∧ lm'.m = lm.m ∧ Ex B H' ∧ (∀ a ∈ lm'.R, B a = none) ∧ S ∉ lm'.R ∧ At H' S (.lst (isV ns)) ∧ (∀ n ∈ ns, 0 ≤ n ∧ n < 100) ∧ ns ≠ [] ∧ ns.length + k = 40 ∧ LmAt lm' s' H' ∧ MOk m s' (ns.length - 1))
          ⟨39, lm, st, [look b6 bn], rfl, rfl, x6.trans e7, fr6, nSR, hS, fun n hn => by rw [List.mem_singleton.mp hn]; exact look_ok bx6.2 bn, by simp, rfl, L6.ex e7, mo6⟩ (fun σ' H8 w1 => ?_) (fun after k σ' H' w1 => ?_)
        · obtain ⟨ns, rfl, x8, hS8, hns, hne, hnl⟩ := w1
          have s8 := s5.ex x8
          have isl : (isV ns).length = ns.length := by unfold isV; rw [List.length_map]
          have npos : 0 < ns.length := List.length_pos_iff.mpr hne
          refine g_seq (g_asg (g_sl (g_v9 (g_po (g_op (g_un (g_c (g_uI (g_call (g_cons (g_v0 (g_cons (g_c (g_nil ?_))))))))))))))
          refine ⟨sa, 2, rfl, s8, by omega, by omega, fun f2 H10 f20 f21 k10 s10 => ?_⟩
          have hS10 : At H10 S (.lst (isV ns)) := hS8.kp k10 (by simpa using SsaB)
          have t10 : Tx B H10 := (Tx.ex x8).trans (s8.txk k10)
          have k010 : Kp [sa] H H10 := (kB.trans (kp_ex x8)).trans k10
          refine g_I0 (g_poI (g_po0 ?_))
          refine g_slL hS10 (fun SL H11 nSL x11 hSL => ?_)
          obtain ⟨n0, hcut, hn0⟩ := cut_end (xs := isV ns) (fun z => by rw [z] at isl; simp at isl; omega) (k := -1 - f2) (by omega) (by omega)
          rw [hcut] at hSL
          have hSLn : (isV ns).drop n0 = isV (ns.drop n0) := by unfold isV; rw [List.map_drop]
          rw [hSLn] at hSL
          have s11 := s10.ex x11
          have SLsa : SL ≠ sa := by
            obtain ⟨i9, _, z9⟩ := id s10
            exact (z9.ne0 nSL).symm
          have t11 := t10.trans (Tx.ex x11)
          have hpc11 := hpcB.tx t11
          have hpt11 := hptB.tx t11
          refine g_n9 (g_ret (g_tup (g_cons (g_op (g_op (g_v1 (g_v4 ?_)))))))
          refine g_ixT hpc11 (at_nat hu1) ?_
          refine g_c (g_ixT (by walk_at "hx") (show atI _ _ = some _ from rfl) (g_cons (g_tup (g_cons (g_c (g_cons (g_tup (g_cons (g_c (g_cons (g_v7 (g_nil ?_))))))))))))
          refine g_tupN (by simp) (fun q1 H12 nq1 x12 hq1 => ?_)
          have hSL12 := hSL.ex x12
          have s12 := s11.ex x12
          have dl : (isV (ns.drop n0)).length = ns.length - n0 := by unfold isV; rw [List.length_map, List.length_drop]
          refine g_cons (g_tup (g_cons (g_c (g_cons (g_op (g_v9 (g_call (g_cons (g_v0 (g_cons (g_cb (g_cons (g_v9 (g_nil (g_lnL (by walk_at "hx") (g_nil ?_))))))))))))))))
          refine ⟨sa, _, rfl, s12, by rw [dl]; omega, by rw [dl]; omega, fun f3 H13 f30 f31 k13 s13 => ?_⟩
          have hSL13 : At H13 SL (.lst (isV (ns.drop n0))) := hSL12.kp k13 (by simpa using SLsa)
          obtain ⟨fi, rfl⟩ := Int.eq_ofNat_of_zero_le f30
          have hfi : fi < (ns.drop n0).length := by rw [dl] at f31; rw [List.length_drop]; omega
          generalize hv : (ns.drop n0)[fi] = v
          have hvm : v ∈ ns := by rw [← hv]; exact List.mem_of_mem_drop (List.getElem_mem hfi)

          refine g_ixL (v := .int v) hSL13 (isV_at (by rw [List.getElem?_eq_getElem hfi, hv])) ?_
          refine g_nil ?_
          refine g_tupN (by simp) (fun q2 H14 nq2 x14 hq2 => ?_)
          refine g_nil ?_
          refine g_tupN (by simp) (fun q3 H15 nq3 x15 hq3 => ?_)
          refine g_nil ?_
          refine g_tupN (by simp) (fun q4 H16 nq4 x16 hq4 => ?_)
          have hq1' : At H16 q1 (.tup [.str "box", .str bn]) := hq1.tx ((s12.txk k13).trans (Tx.ex (x14.trans (x15.trans x16))))
          exact hq (.ref q4) (pl.name, .bin .same (.box bn) (.num v)) H16 ⟨q4, .ref q3, rfl, hq4, q3, .ref q1, .ref q2, rfl, hq3.ex x16, ⟨q1, rfl, hq1'⟩, ⟨q2, rfl, hq2.ex (x15.trans x16)⟩⟩ ⟨i, pl, hpi, rfl, ⟨hbm, hns v hvm⟩, by simp [Tr.deep], by simp [Tr.size]⟩ (((k010.trans (kp_ex (x11.trans x12))).trans k13).trans (kp_ex (x14.trans (x15.trans x16)))) (s13.ex (x14.trans (x15.trans x16)))
        · obtain ⟨lm', s', ns, rfl, em, xB, fr', nSR', hS', hns, hne, hlen, L', mo'⟩ := w1
          have hself := L'.self
          rw [em] at hself
          obtain ⟨wus, hwa, hwal⟩ := L'.wait
          have kd : ∀ l ∈ s'.wait, l.kind ∈ kinds := fun l m => (mo'.wt l m).2.1
          have isl : (isV ns).length = ns.length := by unfold isV; rw [List.length_map]
          have npos : 0 < ns.length := List.length_pos_iff.mpr hne
          refine g_and (g_tst (g_op (g_dget (g_v8 (g_c ?_)))))
          refine g_dgetS hself L'.wv ?_
          refine g_lst (g_nil ?_)
          refine g_lstN (by simp) (fun e H8 n8 e8 he => ?_)
          have hself8 := hself.ex e8
          have hS8 := hS'.ex e8

          refine g_neNilL (hwa.ex e8) (hwal.imp fun _ _ z => z.tx (Tx.ex e8)) kd he ?_
          cases hwt : s'.wait with
          | nil =>
            refine g_k (g_ifN0 (rfl) ?_)
            exact g_iteF (after _ _ ⟨ns, rfl, xB.trans e8, hS8, hns, hne, by omega⟩)
          | cons l rest =>
            rw [hwt] at hwal
            obtain ⟨lu, lus, rfl, hlu, hlus⟩ := hwal
            obtain ⟨lc, rfl, hlc⟩ := id hlu
            have hlw : l ∈ s'.wait := by rw [hwt]; exact List.mem_cons_self
            have hlc8 := hlc.ex e8
            refine g_k (g_ifN1 (by simp) (g_and (g_tst (g_op (g_op (g_op (g_dget (g_v8 (g_c ?_)))))))))
            refine g_dgetS hself8 L'.wv ?_
            refine g_c ?_
            refine g_ixL (hwa.ex e8) at_zero ?_
            refine g_c (g_ixT (by walk_at "hx") (show atI _ _ = some _ from rfl) (g_v3 (g_I0 (g_k ?_))))
            by_cases hle : l.time ≤ time
            · refine g_ifD1 (hle) (g_tst (g_op (g_cb (g_cons (g_v9 (g_nil (g_lnL (by walk_at "hx") (g_c (g_I0 (g_k ?_))))))))))
              by_cases hl40 : ((isV ns).length : Int) < 40
              ·
                refine g_ifD1 (hl40) (g_turn (g_seq (g_drop (g_call (g_cons (g_v1 (g_cons (g_v8 (g_cons (g_op (g_dget (g_v8 (g_c ?_)))))))))))))
                refine g_dgetS hself8 L'.wv ?_
                refine g_c ?_
                refine g_ixL (hwa.ex e8) at_zero ?_
                refine g_nil ?_
                have x8 := xB.trans e8
                refine ⟨wo lm'.R H8, m, .ref pc, lm', s', ns.length - 1, l, .ref lc, by rw [em], hmB.tx (Tx.ex x8), hk, L'.ex e8, mo', by omega, hlu.tx (Tx.ex e8), hlw, wo_ex, fun a ha => wo_none ha, fun lm9 H9 em9 x9 fr9 t9 L9 => ?_⟩
                have S9 : At H9 S (.lst (isV ns)) := (wo_at hS8 nSR').ex x9
                have fr9B : ∀ a ∈ lm9.R, B a = none := fun a ha => by
                  rcases wo_none_iff (fr9 a ha) with z | z
                  · exact fr' a z
                  · exact fresh_back x8 z
                have nSR9 : S ∉ lm9.R := fun z => by
                  have := fr9 S z
                  rw [show wo lm'.R H8 S = some (.lst (isV ns)) from wo_at hS8 nSR'] at this
                  cases this
                have x9B : Ex B H9 := fun a o h => x9 a o (wo_at (x8 a o h) fun z => by rw [fr' a z] at h; cases h)
                have mo9 := mo'.done hk hlw
                generalize doneOf m s' l = s9 at L9 mo9
                have hself9 := L9.self
                rw [em9, em] at hself9
                obtain ⟨b9, hb9⟩ : ∃ b, s9.boxes[i]? = some b := ⟨_, List.getElem?_eq_getElem (show i < s9.boxes.length by rw [mo9.bl]; exact him)⟩
                obtain ⟨ba9, hba9⟩ : ∃ a, lm9.bs[i]? = some a := ⟨_, List.getElem?_eq_getElem (show i < lm9.bs.length by rw [L9.bl, mo9.bl]; exact him)⟩
                have bx9 := mo9.bx i b9 pl hb9 hpi
                refine g_drop (g_bm (g_v9 (g_tyL (by walk_at "hx") (g_cons (g_dget (g_op (g_dget (g_v8 (g_c ?_)))))))))
                refine g_dgetS hself9 L9.bv ?_
                refine g_v4 ?_
                refine g_ixL (v := .ref ba9) L9.boxes (at_nat (by rw [List.getElem?_map, hba9]; rfl)) ?_
                refine g_v7 ?_
                refine g_dgetS (L9.bx i ba9 b9 hba9 hb9) (valV_bxK (by rw [bx9.1]; exact hbm)) ?_
                refine g_nil (g_app (by walk_at "hx") (by walk_at "sz") ?_)
                have kS : Kp [S] H9 (upd H9 S (.lst (isV ns ++ [.int (look b9 bn)]))) := kp_upd (by simp)
                have L10 : LmAt lm9 s9 (upd H9 S (.lst (isV ns ++ [.int (look b9 bn)]))) := L9.far kS nSR9 (kp_tx kS S9)
                refine ⟨k - 1, by omega, lm9, s9, ns ++ [look b9 bn], rfl, em9.trans em, ex_kp x9B kS (by simpa using BS), fr9B, nSR9, by unfold isV; rw [List.map_append]; exact at_new, fun n hn => ?_, by simp, by rw [List.length_append]; simp; omega, L10, by rw [List.length_append]; simpa [show ns.length - 1 + 1 = ns.length by omega] using mo9⟩
                rcases List.mem_append.mp hn with hn | hn
                · exact hns n hn
                · rw [List.mem_singleton.mp hn]
                  exact look_ok bx9.2 bn
              ·
                refine g_ifD0 (hl40) ?_
                exact after _ _ ⟨ns, rfl, xB.trans e8, hS8, hns, hne, by omega⟩
            ·
              refine g_ifD0 (hle) ?_
              exact g_iteF (after _ _ ⟨ns, rfl, xB.trans e8, hS8, hns, hne, by omega⟩)
end
end PM
/-! part F24 -/
namespace PM
open PySem PySem.Spec PyProof.Rows L2 PMH
open Evl (Ex)

local macro_rules | `(tactic| walk_at "ex") => `(tactic| first
  | with_reducible assumption
  | with_reducible exact Evl.Ex.refl _
  | (refine Evl.Ex.trans ?_ (by with_reducible assumption); walk_at "ex"))
local macro_rules | `(tactic| walk_at "hx") => `(tactic| first
  | with_reducible assumption
  | (refine At.ex (by with_reducible assumption) ?_; walk_at "ex")
  | (refine Fz.tx (by with_reducible assumption) ?_; walk_at "tx")
  | (refine TrAt.ex (by with_reducible assumption) ?_; walk_at "ex")
  | (refine MlAt.tx ?_ (by with_reducible assumption); walk_at "tx")
  | (refine PlAt.tx ?_ (by with_reducible assumption); walk_at "tx")
  | (refine LtAt.tx ?_ (by with_reducible assumption); walk_at "tx")
  | (refine GvAt.tx ?_ (by with_reducible assumption); walk_at "tx")
  | (refine WsAt.tx ?_ (by with_reducible assumption); walk_at "tx")
  | (refine RwAt.tx ?_ _ _ (by with_reducible assumption); walk_at "tx")
  | (refine RwsAt.tx ?_ _ _ (by with_reducible assumption); walk_at "tx")
  | (refine RuAt.tx ?_ (by with_reducible assumption); walk_at "tx")
  | (refine PrAt.tx ?_ (by with_reducible assumption); walk_at "tx"))
local macro_rules | `(tactic| walk_at "num") => `(tactic| first
  | with_reducible assumption
  | decide
  | exact Or.inl ⟨by omega, by omega⟩
  | exact Or.inr ⟨by omega, by omega⟩
  | (refine ⟨?_, ?_⟩ <;> omega)
  | (show (0 : Int) < _; omega))
local macro_rules | `(tactic| walk_at "tx") => `(tactic| first
  | with_reducible assumption
  | (refine Tx.ex ?_; walk_at "ex"))
local macro_rules | `(tactic| walk_at "sz") => `(tactic| first
  | with_reducible assumption
  | omega
  | (refine Evl.sz_of ?_; omega)
  | (refine Evl.sz_lt ?_; omega))
local macro_rules | `(tactic| walk_at "fl") => `(tactic| first
  | rfl
  | decide +kernel)

theorem sqL_ex {K : PySem.W.Frag} {H H' : Hp} {a : Addr} {xs : List V} (h : SqL K H a xs) (e : Ex H H') : SqL K H' a xs := h.elim (fun h => .inl (h.elim (fun h => .inl (e _ _ h)) fun ⟨o, h⟩ => .inr ⟨o, e _ _ h⟩)) fun h => .inr h
/-- what a drawn letter is -/
structure GvN (ns : List Nm) (g : Gv) : Prop where
  t0 : 0 ≤ g.time
  t1 : g.time < 1000
  place : g.place ∈ ns
  kind : g.kind ∈ kinds
  l0 : 0 ≤ g.load
  l1 : g.load < 100
section
variable {P : Program} {w : World} {K : PySem.W.Frag} {mg : Str → Option Value} {base : Heap}
def sp_law_given (K : PySem.W.Frag) : Sp := fun vs H Q _ => ∃ (sc na : Addr) (cs : List Int) (ns : List Nm), vs = [.ref sc, .int 1, .ref na, .int 8] ∧ SqL K H sc (cs.map V.int) ∧ cs.length ≤ 63 ∧ At H na (.lst (sV ns)) ∧ ns ≠ [] ∧ ns.length ≤ 100 ∧
  ∀ p us gs H', H p = none → Ex H H' → At H' p (.lst us) → Al GvAt gs us H' → (∀ g ∈ gs, GvN ns g) → gs.length ≤ 8 → Q (.ref p) H'
abbrev N_law_given : List Str := ["_law_script", "_law_first_here", "_law_names", "_law_most", "_law_found", "_law_k", "_law_state", "_law_time", "_law_place"]
theorem sc_law_given : FnScope N_law_given ["_law_script", "_law_first_here", "_law_names", "_law_most"] (defScope s_law_given) := ⟨rfl, rfl, rfl, by decide +kernel, rfl, by decide +kernel, by decide +kernel⟩
theorem ok_law_given (T : TX w K mg)  : Fn P w K mg base CX0 (3) "_law_given" ["_law_script", "_law_first_here", "_law_names", "_law_most"] (sp_law_given K) := by
  have f_law_digits := ok_law_digits (P := P) (base := base) T
  have f_law_next := ok_law_next (P := P) (base := base) T
  obtain ⟨fd, F⟩ := T.d_law_given
  refine mk_fn F T.g_law_given sc_law_given (fun vs H Q E h => by obtain ⟨_, _, _, _, rfl, _⟩ := h; rfl) (fun _ _ _ _ _ _ us hl => match us, hl with | [_, _, _, _], _ => rfl) (fun cdv A outer s H vs Q E hr h => ?_)
  obtain ⟨sc, na, cs, ns, rfl, hs, hc, hn, hne, hnl, hq⟩ := h
  have hu := hu_of hr
  refine ⟨(tSeq (tAsg (tLst tNil) (gName 4)) (tSeq (tFor (iRng2 (tCons (tVar 1) (tCons (tCB rMin2 (tCons (tCB (Evl.rLenS K) (tCons (tVar 0) tNil)) (tCons (tOp rAddI (tVar 1) (tVar 3)) tNil))) tNil))) (gName 5) (tSeq (tAsg (tCall (sp_law_digits K) [] E0 (tCons (tVar 0) (tCons (tVar 5) tNil))) (gName 6)) (tSeq (tAsg (tCall sp_law_next [] E0 (tCons (tVar 6) (tCons (tOp (rIxL K) (tLst (tCons (tC (.int 10)) (tCons (tC (.int 10)) (tCons (tC (.int 40)) tNil)))) (tCall sp_law_next [] E0 (tCons (tVar 6) (tCons (tC (.int 3)) tNil)))) tNil))) (gName 7)) (tSeq (tAsg (tOp (rIxL K) (tVar 2) (tCall sp_law_next [] E0 (tCons (tVar 6) (tCons (tCB (Evl.rLenS K) (tCons (tVar 2) tNil)) tNil)))) (gName 8)) (tDrop (tBM K "list" rAppend (tVar 4) (tCons (tTup (tCons (tVar 7) (tCons (tVar 8) (tCons (tOp (rIxL K) (tLst (tCons (tC (.str "go")) (tCons (tC (.str "do")) (tCons (tC (.str "on")) (tCons (tC (.str "off")) tNil))))) (tCall sp_law_next [] E0 (tCons (tVar 6) (tCons (tC (.int 4)) tNil)))) (tCons (tCall sp_law_next [] E0 (tCons (tVar 6) (tCons (tC (.int 100)) tNil))) tNil))))) tNil))))))) (tRet (tVar 4)))),
      (pss_cons (ps_set (i := 4) sc_law_given.nd rfl (Or.inl rfl) (pe_lst pa_nil))
      (pss_cons (ps_for PassesOwn.never rfl (pi_range2 (by rfl) T.b_range (pa_cons (pv 1) (pa_cons (pe_callB (cl_min rfl) (by rfl) T.b_min bt_min (pa_cons (pe_callB cl_len (by rfl) T.b_len bt_len (pa_cons (pv 0) pa_nil)) (pa_cons (pe_op op_add (pv 1) (pv 3)) pa_nil))) pa_nil))) (pg_name (i := 5) sc_law_given.nd rfl (Or.inl rfl)) (pss_cons (ps_set (i := 6) sc_law_given.nd rfl (Or.inl rfl) (f_law_digits.ex.elim fun _ q => q.elim fun _ q => pe_call q.1 (hr.mono (by omega)) (by rfl) q.2.1 q.2.2.1 q.2.2.2 .nil pass0 (pa_cons (pv 0) (pa_cons (pv 5) pa_nil))))
      (pss_cons (ps_set (i := 7) sc_law_given.nd rfl (Or.inl rfl) (f_law_next.ex.elim fun _ q => q.elim fun _ q => pe_call q.1 (hr.mono (by omega)) (by rfl) q.2.1 q.2.2.1 q.2.2.2 .nil pass0 (pa_cons (pv 6) (pa_cons (pe_ix ix_list (pe_lst (pa_cons pe_int (pa_cons pe_int (pa_cons pe_int pa_nil)))) (f_law_next.ex.elim fun _ q => q.elim fun _ q => pe_call q.1 (hr.mono (by omega)) (by rfl) q.2.1 q.2.2.1 q.2.2.2 .nil pass0 (pa_cons (pv 6) (pa_cons pe_int pa_nil))) (fun _ _ => rfl)) pa_nil))))
      (pss_cons (ps_set (i := 8) sc_law_given.nd rfl (Or.inl rfl) (pe_ix ix_list (pv 2) (f_law_next.ex.elim fun _ q => q.elim fun _ q => pe_call q.1 (hr.mono (by omega)) (by rfl) q.2.1 q.2.2.1 q.2.2.2 .nil pass0 (pa_cons (pv 6) (pa_cons (pe_callB cl_len (by rfl) T.b_len bt_len (pa_cons (pv 2) pa_nil)) pa_nil))) (fun _ _ => rfl)))
      (pss_one (ps_expr (pe_bm PySem.F.plainAttrs_list PySem.F.slot_list_append PySem.F.type_list_append mt_append (pv 4) (pa_cons (pe_tup (pa_cons (pv 7) (pa_cons (pv 8) (pa_cons (pe_ix ix_list (pe_lst (pa_cons pe_str (pa_cons pe_str (pa_cons pe_str (pa_cons pe_str pa_nil))))) (f_law_next.ex.elim fun _ q => q.elim fun _ q => pe_call q.1 (hr.mono (by omega)) (by rfl) q.2.1 q.2.2.1 q.2.2.2 .nil pass0 (pa_cons (pv 6) (pa_cons pe_int pa_nil))) (fun _ _ => rfl)) (pa_cons (f_law_next.ex.elim fun _ q => q.elim fun _ q => pe_call q.1 (hr.mono (by omega)) (by rfl) q.2.1 q.2.2.1 q.2.2.2 .nil pass0 (pa_cons (pv 6) (pa_cons pe_int pa_nil))) pa_nil))))) pa_nil))))))))
      (pss_one (ps_ret (pv 4))))), ?_⟩
  refine g_start (σ' := [some _, some _, some _, some _, none, none, none, none, none]) rfl ?_
  have plen : 0 < ns.length := List.length_pos_iff.mpr hne
  have hcl : (cs.map V.int).length ≤ 63 := by simpa using hc
  refine g_seq (g_asg (g_lst (g_nil ?_)))
  refine g_lstN (by simp) (fun F H1 nF e1 hF => ?_)
  have hs1 := sqL_ex hs e1
  refine g_n4 (g_seq (g_forR2 (g_cons (g_v1 (g_cons (g_cb (g_cons (g_cb (g_cons (g_v0 (g_nil (g_lnS (by walk_at "hx") (g_cons (g_op (g_v1 (g_v3 (g_I0 (g_nil (g_min (g_nil ?_))))))))))))))))))))
  generalize hj : (if (1 + 8 : Int) < ((cs.map V.int).length : Nat) then (1 + 8 : Int) else ((cs.map V.int).length : Nat)) = j
  have hj9 : j ≤ 9 := by rw [← hj]; split <;> omega
  have hj0 : 0 ≤ j := by rw [← hj]; split <;> omega
  refine ⟨1, j, rfl, ⟨by omega, by omega, by omega, by omega⟩, fo_J (fun i σ' H' => (∃ x5 x6 x7 x8, σ' = [some (.ref sc), some (.int 1), some (.ref na), some (.int 8), some (.ref F), x5, x6, x7, x8]) ∧ Ex H H' ∧ ∃ us gs, At H' F (.lst us) ∧ Al GvAt gs us H' ∧ gs.length = i ∧ ∀ g ∈ gs, GvN ns g)
    ⟨⟨_, _, _, _, rfl⟩, e1, [], [], hF, rfl, rfl, fun g h => by cases h⟩ (fun i σ' H' hi w1 => ?_) (fun σ' H' w1 => ?_)⟩
  · obtain ⟨⟨x5, x6, x7, x8, rfl⟩, w2, us, gs, w3, w4, w5, w6⟩ := w1
    have hi8 : i < 8 := by omega
    rw [show (1 : Int) + (i : Int) = ((1 + i : Nat) : Int) by omega]
    refine g_n5 (g_seq (g_asg (g_call (g_cons (g_v0 (g_cons (g_v5 (g_nil ?_))))))))
    refine ⟨sc, cs, 1 + i, rfl, sqL_ex hs w2, by omega, fun st J1 nst y1 s1 => ?_⟩
    have kx : ∀ {A B : Hp}, Ex H' A → Kp [st] A B → Ex H' B := fun x k => ex_kp x k (by simpa using nst)
    refine g_n6 (g_seq (g_asg (g_call (g_cons (g_v6 (g_cons (g_op (g_lst (g_cons (g_c (g_cons (g_c (g_cons (g_c (g_nil ?_)))))))))))))))
    refine g_lstN (by simp) (fun L1 J2 nL1 z2 hL1 => ?_)
    have y2 := y1.trans z2
    have s2 := s1.ex z2
    refine g_call (g_cons (g_v6 (g_cons (g_c (g_nil ?_)))))
    refine ⟨st, 3, rfl, s2, by omega, by omega, fun a J3 a0 a1 k3 s3 => ?_⟩
    have y3 := kx y2 k3
    have hL13 : At J3 L1 (.lst [.int 10, .int 10, .int 40]) := by
      obtain ⟨i9, _, z9⟩ := id s2
      exact kp_lst k3 z9 hL1 (by intro z; simp at z)

    obtain ⟨mm, mm0, mm1, mme⟩ : ∃ mm : Int, 0 < mm ∧ mm ≤ 40 ∧ atI [V.int 10, V.int 10, V.int 40] a = some (.int mm) := by
      have jc : a = 0 ∨ a = 1 ∨ a = 2 := by omega
      rcases jc with rfl | rfl | rfl
      · exact ⟨10, by omega, by omega, rfl⟩
      · exact ⟨10, by omega, by omega, rfl⟩
      · exact ⟨40, by omega, by omega, rfl⟩
    refine g_ixL hL13 mme ?_
    refine g_nil ?_
    refine ⟨st, mm, rfl, s3, mm0, by omega, fun tm J4 t0 t1 k4 s4 => ?_⟩
    have y4 := kx y3 k4
    have hn4 := hn.ex (w2.trans y4)
    refine g_n7 (g_seq (g_asg (g_op (g_v2 (g_call (g_cons (g_v6 (g_cons (g_cb (g_cons (g_v2 (g_nil (g_lnL (by walk_at "hx") (g_nil ?_))))))))))))))
    refine ⟨st, _, rfl, s4, by simp; omega, by simp; omega, fun b J5 b0 b1 k5 s5 => ?_⟩
    have y5 := kx y4 k5
    have hn5 := hn.ex (w2.trans y5)
    obtain ⟨bi, rfl⟩ := Int.eq_ofNat_of_zero_le b0
    have hbi : bi < ns.length := by simpa using b1

    refine g_ixL (v := .str ns[bi]) hn5 (at_nat (by rw [List.getElem?_map, List.getElem?_eq_getElem hbi]; rfl)) ?_
    have w35 := w3.ex y5
    refine g_n8 (g_drop (g_bm (g_v4 (g_tyL (by walk_at "hx") (g_cons (g_tup (g_cons (g_v7 (g_cons (g_v8 (g_cons (g_op (g_lst (g_cons (g_c (g_cons (g_c (g_cons (g_c (g_cons (g_c (g_nil ?_))))))))))))))))))))))
    refine g_lstN (by simp) (fun L2 J6 nL2 z6 hL2 => ?_)
    have y6 := y5.trans z6
    have s6 := s5.ex z6
    refine g_call (g_cons (g_v6 (g_cons (g_c (g_nil ?_)))))
    refine ⟨st, 4, rfl, s6, by omega, by omega, fun c J7 c0 c1 k7 s7 => ?_⟩
    have y7 := kx y6 k7
    have hL27 : At J7 L2 (.lst [.str "go", .str "do", .str "on", .str "off"]) := by
      obtain ⟨i9, _, z9⟩ := id s6
      exact kp_lst k7 z9 hL2 (by intro z; simp at z)

    obtain ⟨kd, hkd, hke⟩ : ∃ k ∈ kinds, atI [V.str "go", V.str "do", V.str "on", V.str "off"] c = some (.str k) := by
      have jc : c = 0 ∨ c = 1 ∨ c = 2 ∨ c = 3 := by omega
      rcases jc with rfl | rfl | rfl | rfl
      · exact ⟨"go", by simp [kinds], rfl⟩
      · exact ⟨"do", by simp [kinds], rfl⟩
      · exact ⟨"on", by simp [kinds], rfl⟩
      · exact ⟨"off", by simp [kinds], rfl⟩
    refine g_ixL hL27 hke ?_
    refine g_cons (g_call (g_cons (g_v6 (g_cons (g_c (g_nil ?_))))))
    refine ⟨st, 100, rfl, s7, by omega, by omega, fun ld J8 l0 l1 k8 s8 => ?_⟩
    have y8 := kx y7 k8
    refine g_nil ?_
    refine g_tupN (by simp) (fun tp J9 ntp z9 htp => ?_)
    have y9 := y8.trans z9
    have w39 := w3.ex y9
    have hul : us.length ≤ 100 := by rw [w4.len]; omega
    refine g_nil (g_app (by walk_at "hx") (by walk_at "sz") ?_)
    have tt : Tx J9 (upd J9 F (.lst (us ++ [.ref tp]))) := tx_mut w39
    have hgv : GvAt ⟨tm, ns[bi], kd, ld⟩ (.ref tp) (upd J9 F (.lst (us ++ [.ref tp]))) := ⟨tp, rfl, tt _ _ trivial htp⟩
    refine ⟨⟨_, _, _, _, rfl⟩, ex_upd (w2.trans y9) nF, us ++ [.ref tp], gs ++ [⟨tm, ns[bi], kd, ld⟩], at_new, Al.snoc (w4.imp fun _ _ z => z.tx ((Tx.ex y9).trans tt)) hgv, by simp [w5], fun g hg => ?_⟩
    rcases List.mem_append.mp hg with hg | hg
    · exact w6 g hg
    · rw [List.mem_singleton.mp hg]
      exact ⟨t0, (show tm < 1000 by omega), List.getElem_mem hbi, hkd, l0, l1⟩
  · obtain ⟨⟨x5, x6, x7, x8, rfl⟩, w2, us, gs, w3, w4, w5, w6⟩ := w1
    refine g_ret (g_v4 ?_)
    exact hq F us gs _ nF w2 w3 w4 w6 (by omega)
end
end PM
/-! part F22 -/
namespace PM
open PySem PySem.Spec PyProof.Rows L2 PMH
open Evl (Ex)

local macro_rules | `(tactic| walk_at "ex") => `(tactic| first
  | with_reducible assumption
  | with_reducible exact Evl.Ex.refl _
  | (refine Evl.Ex.trans ?_ (by with_reducible assumption); walk_at "ex"))
local macro_rules | `(tactic| walk_at "hx") => `(tactic| first
  | with_reducible assumption
  | (refine At.ex (by with_reducible assumption) ?_; walk_at "ex")
  | (refine Fz.tx (by with_reducible assumption) ?_; walk_at "tx")
  | (refine TrAt.ex (by with_reducible assumption) ?_; walk_at "ex")
  | (refine MlAt.tx ?_ (by with_reducible assumption); walk_at "tx")
  | (refine PlAt.tx ?_ (by with_reducible assumption); walk_at "tx")
  | (refine LtAt.tx ?_ (by with_reducible assumption); walk_at "tx")
  | (refine GvAt.tx ?_ (by with_reducible assumption); walk_at "tx")
  | (refine WsAt.tx ?_ (by with_reducible assumption); walk_at "tx")
  | (refine RwAt.tx ?_ _ _ (by with_reducible assumption); walk_at "tx")
  | (refine RwsAt.tx ?_ _ _ (by with_reducible assumption); walk_at "tx")
  | (refine RuAt.tx ?_ (by with_reducible assumption); walk_at "tx")
  | (refine PrAt.tx ?_ (by with_reducible assumption); walk_at "tx"))
local macro_rules | `(tactic| walk_at "num") => `(tactic| first
  | with_reducible assumption
  | decide
  | exact Or.inl ⟨by omega, by omega⟩
  | exact Or.inr ⟨by omega, by omega⟩
  | (refine ⟨?_, ?_⟩ <;> omega)
  | (show (0 : Int) < _; omega))
local macro_rules | `(tactic| walk_at "tx") => `(tactic| first
  | with_reducible assumption
  | (refine Tx.ex ?_; walk_at "ex"))
local macro_rules | `(tactic| walk_at "sz") => `(tactic| first
  | with_reducible assumption
  | omega
  | (refine Evl.sz_of ?_; omega)
  | (refine Evl.sz_lt ?_; omega))
local macro_rules | `(tactic| walk_at "fl") => `(tactic| first
  | rfl
  | decide +kernel)

/-- how a row of depth d may use the room -/
def Rel1 (d : Nat) (r r' : Int) : Prop := r' ≤ r - 1 ∧ (r' = r - 1 ∨ (d = 2 ∧ 3 ≤ r' ∧ r - 4 ≤ r') ∨ (d = 3 ∧ 2 ≤ r'))
def RelN (d : Nat) : Nat → Int → Int → Prop
  | 0, s, x => s = x
  | n + 1, s, x => ∃ y, RelN d n s y ∧ Rel1 d y x
theorem rel_if {d m1 m2 : Nat} {r s x y : Int} (hd : 1 ≤ d) (hd3 : d + 1 ≤ 3) (hs : s = r - 1) (h : 2 + 2 * ((d : Int) + 1) ≤ s) (a1 : 1 ≤ m1) (a2 : m1 ≤ 2) (a3 : m2 ≤ 1) (h1 : RelN d m1 s x) (h2 : RelN d m2 x y) : Rel1 (d + 1) r y := by
  have e1 : m1 = 1 ∨ m1 = 2 := by omega
  have e2 : m2 = 0 ∨ m2 = 1 := by omega
  have e3 : d = 1 ∨ d = 2 := by omega
  have g1 : ∃ z, (s = z ∨ Rel1 d s z) ∧ (m1 = 1 → s = z) ∧ Rel1 d z x := by
    rcases e1 with rfl | rfl
    · obtain ⟨z, hz, q⟩ := h1
      have hz : s = z := hz
      exact ⟨z, .inl hz, fun _ => hz, q⟩
    · obtain ⟨z, ⟨z2, hz, q2⟩, q⟩ := h1
      have hz : s = z2 := hz
      exact ⟨z, .inr (hz ▸ q2), fun e => by omega, q⟩
  have g2 : x = y ∨ Rel1 d x y := by
    rcases e2 with rfl | rfl
    · exact .inl h2
    · obtain ⟨z, hz, q⟩ := h2
      have hz : x = z := hz
      exact .inr (hz ▸ q)
  obtain ⟨z, q1, _, q2⟩ := g1
  unfold Rel1 at *
  rcases e3 with rfl | rfl <;> omega
theorem g_and2 {t u : TT} {σ : L2.St} {H : Hp} {R : Bool → Hp → Prop} {a b : Bool} (ha : ∀ R : Bool → Hp → Prop, R a H → t σ H R) (hb : ∀ R : Bool → Hp → Prop, R b H → u σ H R) (h : R (a && b) H) : tAnd t u σ H R := by
  refine g_and (ha _ ?_)
  cases a with
  | true => exact hb _ h
  | false => exact h
theorem g_rT {c : Bool} {A B : Prop} (e : c = true) (h : A) : if c = true then A else B := by rw [if_pos e]; exact h
theorem g_rF {c : Bool} {A B : Prop} (e : c = false) (h : B) : if c = true then A else B := by
  rw [if_neg (by rw [e]; exact Bool.false_ne_true)]
  exact h
theorem oks_snoc {bs ps : List Nm} {r : Row} : ∀ {rs : List Row}, Row.oks bs ps rs → Row.ok bs ps r → Row.oks bs ps (rs ++ [r])
  | [], _, h => by simp only [List.nil_append, Row.oks]; exact ⟨h, trivial⟩
  | x :: xs, h, k => by
    unfold Row.oks at h
    rw [List.cons_append]
    unfold Row.oks
    exact ⟨h.1, oks_snoc h.2 k⟩
theorem deeps_snoc {d : Nat} {r : Row} : ∀ {rs : List Row}, Row.deeps rs ≤ d → r.deep ≤ d → Row.deeps (rs ++ [r]) ≤ d
  | [], _, h => by simp only [List.nil_append, Row.deeps]; omega
  | x :: xs, h, k => by
    simp only [Row.deeps] at h
    have := deeps_snoc (rs := xs) (by omega) k
    simp only [List.cons_append, Row.deeps]
    omega
theorem cnts_snoc (rs : List Row) (r : Row) : Row.cnts (rs ++ [r]) = Row.cnts rs + r.cnt := by
  rw [Row.cnts_append]
  simp only [Row.cnts]
  omega
section
variable {P : Program} {w : World} {K : PySem.W.Frag} {mg : Str → Option Value} {base : Heap}
/-- the state's list and the room's -/
structure RoA (sa ra : Addr) (rm : Int) (H : Hp) : Prop where
  st : StA sa H
  rm : At H ra (.lst [.int rm])
theorem RoA.tx {sa ra : Addr} {rm : Int} {H H' : Hp} (h : RoA sa ra rm H) (k : Kp [sa, ra] H H') : Tx H H' := by
  obtain ⟨⟨i, _, h1⟩, h2⟩ := h
  refine tx_kp k fun b hb u f e => ?_
  simp only [List.mem_cons, List.not_mem_nil, or_false] at hb
  rcases hb with rfl | rfl
  · rw [h1] at e; cases e; exact f
  · rw [h2] at e; cases e; exact f
theorem RoA.ex {sa ra : Addr} {rm : Int} {H H' : Hp} (h : RoA sa ra rm H) (e : Ex H H') : RoA sa ra rm H' := ⟨h.st.ex e, h.rm.ex e⟩
theorem RoA.names {sa ra b : Addr} {rm : Int} {H H' : Hp} {ns : List Nm} (h : RoA sa ra rm H) (hb : At H b (.lst (sV ns))) (k : Kp [sa, ra] H H') : At H' b (.lst (sV ns)) := by
  obtain ⟨⟨i, _, h1⟩, h2⟩ := h
  refine hb.kp k ?_
  simp only [List.mem_cons, List.not_mem_nil, or_false, not_or]
  exact ⟨hb.ne h1 fun z => (by cases ns <;> simp at z), hb.ne h2 fun z => (by cases ns <;> simp at z)⟩
theorem RoA.next {sa ra : Addr} {rm : Int} {H H' : Hp} (h : RoA sa ra rm H) (n : sa ≠ ra) (k : Kp [sa] H H') (s : StA sa H') : RoA sa ra rm H' := ⟨s, h.rm.kp k (by simpa using n.symm)⟩
theorem kp1 {sa ra : Addr} {H H' : Hp} (k : Kp [sa] H H') : Kp [sa, ra] H H' := k.mono (by simp)
def sp_law_row (d : Nat) : Sp := fun vs H Q _ => ∃ (sa ba pa ra : Addr) (bs ps : List Nm) (dp rm : Int), vs = [.ref sa, .ref ba, .ref pa, .int dp, .ref ra] ∧ dp = (d : Int) ∧ 1 ≤ d ∧ d ≤ 3 ∧ RoA sa ra rm H ∧ sa ≠ ra ∧ At H ba (.lst (sV bs)) ∧ At H pa (.lst (sV ps)) ∧ bs.length ≤ 100 ∧ (∀ n ∈ bs, n ∈ nms) ∧ ps.length ≤ 100 ∧ ps ≠ [] ∧
  ∀ r u H', RwAt r u H' → Row.ok bs ps r → r.deep ≤ d → Rel1 d rm (rm - r.cnt) → Kp [sa, ra] H H' → RoA sa ra (rm - r.cnt) H' → Q u H'
abbrev N_law_row : List Str := ["_law_state", "_law_boxes", "_law_places", "_law_deep", "_law_room", "_law_way", "_law_many", "_law_rows", "_law_others", "_law_goal", "_law_span", "_law_kind", "_law_k"]
theorem sc_law_row : FnScope N_law_row ["_law_state", "_law_boxes", "_law_places", "_law_deep", "_law_room"] (defScope s_law_row) := ⟨rfl, rfl, rfl, by decide +kernel, rfl, by decide +kernel, by decide +kernel⟩
theorem ok_law_row (T : TX w K mg)  (d : Nat) : Fn P w K mg base CX0 (d + 6) "_law_row" ["_law_state", "_law_boxes", "_law_places", "_law_deep", "_law_room"] (sp_law_row d) := by
  have f_law_next := ok_law_next (P := P) (base := base) T
  have f_law_tree := ok_law_tree (P := P) (base := base) T 3
  induction d with
  | zero =>
    obtain ⟨fd, F⟩ := T.d_law_row
    refine mk_fn F T.g_law_row sc_law_row (fun vs H Q E h => by obtain ⟨_, _, _, _, _, _, _, _, rfl, _⟩ := h; rfl) (fun _ _ _ _ _ _ us hl => match us, hl with | [_, _, _, _, _], _ => rfl) (fun cdv A outer s H vs Q E hr h => ?_)
    obtain ⟨sa, ba, pa, ra, bs, ps, dp, rm, rfl, hdp, hd1, hd3, hro, hne, hb, hp, hbl, hbn, hpl, hpn, hq⟩ := h
    omega
  | succ d f_law_row =>
    obtain ⟨fd, F⟩ := T.d_law_row
    refine mk_fn F T.g_law_row sc_law_row (fun vs H Q E h => by obtain ⟨_, _, _, _, _, _, _, _, rfl, _⟩ := h; rfl) (fun _ _ _ _ _ _ us hl => match us, hl with | [_, _, _, _, _], _ => rfl) (fun cdv A outer s H vs Q E hr h => ?_)
    obtain ⟨sa, ba, pa, ra, bs, ps, dp, rm, rfl, hdp, hd1, hd3, hro, hne, hb, hp, hbl, hbn, hpl, hpn, hq⟩ := h
    have hu := hu_of hr
    refine ⟨(tSeq (tAsg (tOp rSubI (tOp (rIxL K) (tVar 4) (tC (.int 0))) (tC (.int 1))) (gSub (tVar 4) (tC (.int 0)) rSetL)) (tSeq (tAsg (tCall sp_law_next [] E0 (tCons (tVar 0) (tCons (tC (.int 6)) tNil))) (gName 5)) (tSeq (tIfS (tAnd (tTest (tOp rEq (tVar 5) (tC (.int 4)))) (tAnd (tTest (tOp rGtI (tVar 3) (tC (.int 1)))) (tTest (tOp rGeI (tOp (rIxL K) (tVar 4) (tC (.int 0))) (tOp rAddI (tC (.int 2)) (tOp rMulI (tC (.int 2)) (tVar 3))))))) (tSeq (tAsg (tOp rAddI (tC (.int 1)) (tCall sp_law_next [] E0 (tCons (tVar 0) (tCons (tC (.int 2)) tNil)))) (gName 6)) (tSeq (tAsg (tLc (iRng1 (tCons (tVar 6) tNil)) (gName 12) tYes (tCall (sp_law_row d) [] E0 (tCons (tVar 0) (tCons (tVar 1) (tCons (tVar 2) (tCons (tOp rSubI (tVar 3) (tC (.int 1))) (tCons (tVar 4) tNil)))))) [12]) (gName 7)) (tSeq (tAsg (tCall sp_law_next [] E0 (tCons (tVar 0) (tCons (tC (.int 2)) tNil))) (gName 6)) (tSeq (tAsg (tLc (iRng1 (tCons (tVar 6) tNil)) (gName 12) tYes (tCall (sp_law_row d) [] E0 (tCons (tVar 0) (tCons (tVar 1) (tCons (tVar 2) (tCons (tOp rSubI (tVar 3) (tC (.int 1))) (tCons (tVar 4) tNil)))))) [12]) (gName 8)) (tRet (tTup (tCons (tC (.str "if")) (tCons (tCall (sp_law_tree 3) [] E0 (tCons (tVar 0) (tCons (tVar 1) (tCons (tC (.int 2)) tNil)))) (tCons (tCB (rTupS K) (tCons (tVar 7) tNil)) (tCons (tCB (rTupS K) (tCons (tVar 8) tNil)) tNil)))))))))) tNext) (tSeq (tIfS (tAnd (tTest (tOp rEq (tVar 5) (tC (.int 5)))) (tTest (tOp (rNeD K) (tVar 1) (tLst tNil)))) (tRet (tTup (tCons (tC (.str "draw")) (tCons (tOp (rIxL K) (tVar 1) (tCall sp_law_next [] E0 (tCons (tVar 0) (tCons (tCB (Evl.rLenS K) (tCons (tVar 1) tNil)) tNil)))) (tCons (tOp rAddI (tC (.int 2)) (tCall sp_law_next [] E0 (tCons (tVar 0) (tCons (tC (.int 3)) tNil)))) tNil))))) tNext) (tSeq (tIfS (tAnd (tTest (tOp rLtI (tVar 5) (tC (.int 2)))) (tTest (tOp (rNeD K) (tVar 1) (tLst tNil)))) (tRet (tTup (tCons (tC (.str "set")) (tCons (tOp (rIxL K) (tVar 1) (tCall sp_law_next [] E0 (tCons (tVar 0) (tCons (tCB (Evl.rLenS K) (tCons (tVar 1) tNil)) tNil)))) (tCons (tCall (sp_law_tree 3) [] E0 (tCons (tVar 0) (tCons (tVar 1) (tCons (tC (.int 3)) tNil)))) tNil))))) tNext) (tSeq (tAsg (tOp (rIxL K) (tVar 2) (tCall sp_law_next [] E0 (tCons (tVar 0) (tCons (tCB (Evl.rLenS K) (tCons (tVar 2) tNil)) tNil)))) (gName 9)) (tSeq (tAsg (tOp rAddI (tC (.int 1)) (tCall sp_law_next [] E0 (tCons (tVar 0) (tCons (tOp (rIxL K) (tLst (tCons (tC (.int 3)) (tCons (tC (.int 3)) (tCons (tC (.int 20)) tNil)))) (tCall sp_law_next [] E0 (tCons (tVar 0) (tCons (tC (.int 3)) tNil)))) tNil)))) (gName 10)) (tSeq (tAsg (tOp (rIxL K) (tLst (tCons (tC (.str "go")) (tCons (tC (.str "do")) (tCons (tC (.str "on")) tNil)))) (tCall sp_law_next [] E0 (tCons (tVar 0) (tCons (tC (.int 3)) tNil)))) (gName 11)) (tRet (tTup (tCons (tC (.str "send")) (tCons (tVar 9) (tCons (tVar 11) (tCons (tVar 10) (tCons (tCall (sp_law_tree 3) [] E0 (tCons (tVar 0) (tCons (tVar 1) (tCons (tC (.int 2)) tNil)))) tNil))))))))))))))),
      (pss_cons (ps_asg (pe_op op_sub (pe_ix ix_list (pv 4) pe_int (fun _ _ => rfl)) pe_int) (pg_sub (pv 4) pe_int set_list))
      (pss_cons (ps_set (i := 5) sc_law_row.nd rfl (Or.inl rfl) (f_law_next.ex.elim fun _ q => q.elim fun _ q => pe_call q.1 (hr.mono (by omega)) (by rfl) q.2.1 q.2.2.1 q.2.2.2 .nil pass0 (pa_cons (pv 0) (pa_cons pe_int pa_nil))))
      (pss_cons (ps_if (PW.pt (pw_and (pt_cmpR op_eq (pv 5) pe_int (nomark _)) (pw_and (pt_cmpR op_gt (pv 3) pe_int (nomark _)) (pw_and1 (pt_cmpR op_ge (pe_ix ix_list (pv 4) pe_int (fun _ _ => rfl)) (pe_op op_add pe_int (pe_op op_mul pe_int (pv 3))) (nomark _)))))) (pss_cons (ps_set (i := 6) sc_law_row.nd rfl (Or.inl rfl) (pe_op op_add pe_int (f_law_next.ex.elim fun _ q => q.elim fun _ q => pe_call q.1 (hr.mono (by omega)) (by rfl) q.2.1 q.2.2.1 q.2.2.2 .nil pass0 (pa_cons (pv 0) (pa_cons pe_int pa_nil)))))
      (pss_cons (ps_setLc (i := 7) (own := [("_law_k", 12)]) (wi := (iRng1 (tCons (tVar 6) tNil))) (g := (gName 12)) (tt := tYes) (te := (tCall (sp_law_row d) [] E0 (tCons (tVar 0) (tCons (tVar 1) (tCons (tVar 2) (tCons (tOp rSubI (tVar 3) (tC (.int 1))) (tCons (tVar 4) tNil))))))) rfl sc_law_row.nd rfl rfl (sw_true rfl rfl rfl (by decide +kernel)) (pi_range1 (by rfl) T.b_range (pa_cons (pv 6) pa_nil)) (blkOk_by (N := N_law_row) (sc := defScope s_law_row) (by decide +kernel)) (fun _ _ _ _ _ => (pg_name (i := 12) sc_law_row.nd rfl (Or.inl rfl))) (fun _ _ _ _ _ => pts_nil) (fun _ _ _ _ _ => (f_law_row.ex.elim fun _ q => q.elim fun _ q => pe_call q.1 (hr.mono (by omega)) (by rfl) q.2.1 q.2.2.1 q.2.2.2 .nil pass0 (pa_cons (pv 0) (pa_cons (pv 1) (pa_cons (pv 2) (pa_cons (pe_op op_sub (pv 3) pe_int) (pa_cons (pv 4) pa_nil))))))))
      (pss_cons (ps_set (i := 6) sc_law_row.nd rfl (Or.inl rfl) (f_law_next.ex.elim fun _ q => q.elim fun _ q => pe_call q.1 (hr.mono (by omega)) (by rfl) q.2.1 q.2.2.1 q.2.2.2 .nil pass0 (pa_cons (pv 0) (pa_cons pe_int pa_nil))))
      (pss_cons (ps_setLc (i := 8) (own := [("_law_k", 12)]) (wi := (iRng1 (tCons (tVar 6) tNil))) (g := (gName 12)) (tt := tYes) (te := (tCall (sp_law_row d) [] E0 (tCons (tVar 0) (tCons (tVar 1) (tCons (tVar 2) (tCons (tOp rSubI (tVar 3) (tC (.int 1))) (tCons (tVar 4) tNil))))))) rfl sc_law_row.nd rfl rfl (sw_true rfl rfl rfl (by decide +kernel)) (pi_range1 (by rfl) T.b_range (pa_cons (pv 6) pa_nil)) (blkOk_by (N := N_law_row) (sc := defScope s_law_row) (by decide +kernel)) (fun _ _ _ _ _ => (pg_name (i := 12) sc_law_row.nd rfl (Or.inl rfl))) (fun _ _ _ _ _ => pts_nil) (fun _ _ _ _ _ => (f_law_row.ex.elim fun _ q => q.elim fun _ q => pe_call q.1 (hr.mono (by omega)) (by rfl) q.2.1 q.2.2.1 q.2.2.2 .nil pass0 (pa_cons (pv 0) (pa_cons (pv 1) (pa_cons (pv 2) (pa_cons (pe_op op_sub (pv 3) pe_int) (pa_cons (pv 4) pa_nil))))))))
      (pss_one (ps_ret (pe_tup (pa_cons pe_str (pa_cons (f_law_tree.ex.elim fun _ q => q.elim fun _ q => pe_call q.1 (hr.mono (by omega)) (by rfl) q.2.1 q.2.2.1 q.2.2.2 .nil pass0 (pa_cons (pv 0) (pa_cons (pv 1) (pa_cons pe_int pa_nil)))) (pa_cons (pe_callTy cl_tuple (by rfl) T.b_tuple bt_tuple (pa_cons (pv 7) pa_nil)) (pa_cons (pe_callTy cl_tuple (by rfl) T.b_tuple bt_tuple (pa_cons (pv 8) pa_nil)) pa_nil))))))))))) pss_nil)
      (pss_cons (ps_if (PW.pt (pw_and (pt_cmpR op_eq (pv 5) pe_int (nomark _)) (pw_and1 (pt_cmpR (op_neD hr.units) (pv 1) (pe_lst pa_nil) (nomark _))))) (pss_one (ps_ret (pe_tup (pa_cons pe_str (pa_cons (pe_ix ix_list (pv 1) (f_law_next.ex.elim fun _ q => q.elim fun _ q => pe_call q.1 (hr.mono (by omega)) (by rfl) q.2.1 q.2.2.1 q.2.2.2 .nil pass0 (pa_cons (pv 0) (pa_cons (pe_callB cl_len (by rfl) T.b_len bt_len (pa_cons (pv 1) pa_nil)) pa_nil))) (fun _ _ => rfl)) (pa_cons (pe_op op_add pe_int (f_law_next.ex.elim fun _ q => q.elim fun _ q => pe_call q.1 (hr.mono (by omega)) (by rfl) q.2.1 q.2.2.1 q.2.2.2 .nil pass0 (pa_cons (pv 0) (pa_cons pe_int pa_nil)))) pa_nil)))))) pss_nil)
      (pss_cons (ps_if (PW.pt (pw_and (pt_cmpR op_lt (pv 5) pe_int (nomark _)) (pw_and1 (pt_cmpR (op_neD hr.units) (pv 1) (pe_lst pa_nil) (nomark _))))) (pss_one (ps_ret (pe_tup (pa_cons pe_str (pa_cons (pe_ix ix_list (pv 1) (f_law_next.ex.elim fun _ q => q.elim fun _ q => pe_call q.1 (hr.mono (by omega)) (by rfl) q.2.1 q.2.2.1 q.2.2.2 .nil pass0 (pa_cons (pv 0) (pa_cons (pe_callB cl_len (by rfl) T.b_len bt_len (pa_cons (pv 1) pa_nil)) pa_nil))) (fun _ _ => rfl)) (pa_cons (f_law_tree.ex.elim fun _ q => q.elim fun _ q => pe_call q.1 (hr.mono (by omega)) (by rfl) q.2.1 q.2.2.1 q.2.2.2 .nil pass0 (pa_cons (pv 0) (pa_cons (pv 1) (pa_cons pe_int pa_nil)))) pa_nil)))))) pss_nil)
      (pss_cons (ps_set (i := 9) sc_law_row.nd rfl (Or.inl rfl) (pe_ix ix_list (pv 2) (f_law_next.ex.elim fun _ q => q.elim fun _ q => pe_call q.1 (hr.mono (by omega)) (by rfl) q.2.1 q.2.2.1 q.2.2.2 .nil pass0 (pa_cons (pv 0) (pa_cons (pe_callB cl_len (by rfl) T.b_len bt_len (pa_cons (pv 2) pa_nil)) pa_nil))) (fun _ _ => rfl)))
      (pss_cons (ps_set (i := 10) sc_law_row.nd rfl (Or.inl rfl) (pe_op op_add pe_int (f_law_next.ex.elim fun _ q => q.elim fun _ q => pe_call q.1 (hr.mono (by omega)) (by rfl) q.2.1 q.2.2.1 q.2.2.2 .nil pass0 (pa_cons (pv 0) (pa_cons (pe_ix ix_list (pe_lst (pa_cons pe_int (pa_cons pe_int (pa_cons pe_int pa_nil)))) (f_law_next.ex.elim fun _ q => q.elim fun _ q => pe_call q.1 (hr.mono (by omega)) (by rfl) q.2.1 q.2.2.1 q.2.2.2 .nil pass0 (pa_cons (pv 0) (pa_cons pe_int pa_nil))) (fun _ _ => rfl)) pa_nil)))))
      (pss_cons (ps_set (i := 11) sc_law_row.nd rfl (Or.inl rfl) (pe_ix ix_list (pe_lst (pa_cons pe_str (pa_cons pe_str (pa_cons pe_str pa_nil)))) (f_law_next.ex.elim fun _ q => q.elim fun _ q => pe_call q.1 (hr.mono (by omega)) (by rfl) q.2.1 q.2.2.1 q.2.2.2 .nil pass0 (pa_cons (pv 0) (pa_cons pe_int pa_nil))) (fun _ _ => rfl)))
      (pss_one (ps_ret (pe_tup (pa_cons pe_str (pa_cons (pv 9) (pa_cons (pv 11) (pa_cons (pv 10) (pa_cons (f_law_tree.ex.elim fun _ q => q.elim fun _ q => pe_call q.1 (hr.mono (by omega)) (by rfl) q.2.1 q.2.2.1 q.2.2.2 .nil pass0 (pa_cons (pv 0) (pa_cons (pv 1) (pa_cons pe_int pa_nil)))) pa_nil)))))))))))))))), ?_⟩
    refine g_start (σ' := [some _, some _, some _, some _, some _, none, none, none, none, none, none, none, none]) rfl ?_
    have hrm := hro.rm
    obtain ⟨i0, hi0, hst⟩ := hro.st
    refine g_seq (g_asg (g_op (g_op (g_v4 (g_c (g_ixL (by walk_at "hx") (show atI _ _ = some _ from rfl) (g_c (g_I0 (g_gsub (g_v4 (g_c (g_setI (by walk_at "hx") rfl ?_))))))))))))
    refine g_upd (fun H0 k0 hr0 => ?_)
    have k0' : Kp [sa, ra] H H0 := k0.mono (by simp)
    have ro0 : RoA sa ra (rm - 1) H0 := ⟨⟨i0, hi0, hst.kp k0 (by simpa using hne)⟩, hr0⟩
    refine g_seq (g_asg (g_call (g_cons (g_v0 (g_cons (g_c (g_nil ?_)))))))
    refine ⟨sa, 6, rfl, ro0.st, by omega, by omega, fun way H1 w0 w6 k1 s1 => ?_⟩
    have ro1 := ro0.next hne k1 s1
    have k01 := k0'.trans (kp1 (ra := ra) k1)
    have hr1 := ro1.rm
    have plain : ∀ r u H', RwAt r u H' → Row.ok bs ps r → r.cnt = 1 → r.deep = 1 → Kp [sa, ra] H H' → RoA sa ra (rm - 1) H' → Q u H' := fun r u H' a1 a2 a3 a4 a5 a6 => by
      refine hq r u H' a1 a2 (by omega) ?_ a5 ?_
      · rw [a3]
        exact ⟨by omega, .inl (by omega)⟩
      · rw [a3]
        exact a6
    refine g_seq (g_ifs (g_and2 (fun R h => g_tst (g_op (g_v5 (g_c (g_eqI (g_k h)))))) (fun R h => g_and2 (fun R h => g_tst (g_op (g_v3 (g_c (g_I0 (g_k h)))))) (fun R h => g_tst (g_op (g_op (g_v4 (g_c (g_ixL hr1 (show atI _ _ = some _ from rfl) (g_op (g_c (g_op (g_c (g_v3 (g_I (by walk_at "num") (g_I0 (g_I0 (g_k h))))))))))))))) h) ?_))
    by_cases h4 : way = 4 ∧ 1 < dp ∧ 2 + 2 * dp ≤ rm - 1
    · refine g_rT (by rw [decide_eq_true h4.1, decide_eq_true h4.2.1, decide_eq_true h4.2.2]; rfl) ?_
      refine g_seq (g_asg (g_op (g_c (g_call (g_cons (g_v0 (g_cons (g_c (g_nil ?_)))))))))
      have b1 := hro.names hb k01
      have p1 := hro.names hp k01
      have kk1 := k01
      refine ⟨sa, 2, rfl, ro1.st, by omega, by omega, fun f H2 f0 f1 k2 s2 => ?_⟩
      have ro2 := ro1.next hne k2 s2
      have b2 := ro1.names b1 (kp1 k2)
      have p2 := ro1.names p1 (kp1 k2)
      have kk2 := kk1.trans (kp1 (ra := ra) k2)
      refine g_I0 (g_n6 (g_seq (g_asg (g_lcR (g_cons (g_v6 (g_nil ?_)))))))
      refine ⟨1 + f, rfl, by omega, by omega, lc_genR (ta := tNil) (lo := 0) (n := (1 + f).toNat) (fun D i acc H' => ∃ rs : List Row, rs.length = i ∧ Al RwAt rs acc H' ∧ Row.oks bs ps rs ∧ Row.deeps rs ≤ d ∧ RelN d i (rm - 1) (rm - 1 - Row.cnts rs) ∧ Kp [sa, ra] H2 H' ∧ RoA sa ra (rm - 1 - Row.cnts rs) H') (by omega)
        (fun D H' nD e hD => ⟨[], rfl, rfl, by simp only [Row.oks], by simp only [Row.deeps]; omega, by simp only [Row.cnts, RelN]; omega, kp_ex e, by simpa [Row.cnts] using ro2.ex e⟩) (fun D i acc H' nD hi hl wi hD Y N hY hN => ?_) (fun D acc H' nD wi hD => ?_)⟩
      · obtain ⟨rs, w1, w2, w3, w4, w5, w6, w7⟩ := wi
        obtain ⟨i9, _, z9⟩ := id ro2.st
        have nsa : D ≠ sa := (z9.ne0 nD).symm
        have nra : D ≠ ra := (ro2.rm.ne0 nD).symm
        have b' := ro2.names b2 w6
        have p' := ro2.names p2 w6
        refine g_n12 (And.intro rfl (g_yes (g_iteT (g_call (g_cons (g_v0 (g_cons (g_v1 (g_cons (g_v2 (g_cons (g_op (g_v3 (g_c (g_I0 (g_cons (g_v4 (g_nil ?_))))))))))))))))))
        refine ⟨sa, ba, pa, ra, bs, ps, dp - 1, _, rfl, by omega, by omega, by omega, w7, hne, b', p', hbl, hbn, hpl, hpn, fun r u H4 a1 a2 a3 a4 k4 r4 => ?_⟩
        have tt := w7.tx k4
        have hD4 : At H4 D (.lst acc) := hD.kp k4 (by simp; exact ⟨nsa, nra⟩)
        have t5 : Tx H4 (upd H4 D (.lst (acc ++ [u]))) := tx_mut hD4
        have kD : Kp [D] H4 (upd H4 D (.lst (acc ++ [u]))) := kp_upd (by simp)
        obtain ⟨i8, _, z8⟩ := id r4.st
        refine hY u H4 hD4 ⟨rs ++ [r], by simp [w1], Al.snoc (w2.imp fun x y z => (RwAt.tx t5 x y (RwAt.tx tt x y z))) (RwAt.tx t5 _ _ a1), oks_snoc w3 a2, deeps_snoc w4 a3, ?_, ?_, ?_⟩
        · rw [cnts_snoc]
          refine ⟨_, w5, ?_⟩
          have e : rm - 1 - ((Row.cnts rs + r.cnt : Nat) : Int) = rm - 1 - (Row.cnts rs : Int) - (r.cnt : Int) := by omega
          rw [e]
          exact a4
        · intro x o hx nx
          have hx4 := (w6.trans k4) x o hx nx
          exact kD x o hx4 (by simp only [List.mem_singleton]; exact fun z => by subst z; rw [nD] at hx; cases hx)
        · rw [cnts_snoc]
          have e : rm - 1 - ((Row.cnts rs + r.cnt : Nat) : Int) = rm - 1 - (Row.cnts rs : Int) - (r.cnt : Int) := by omega
          rw [e]
          exact ⟨by
            obtain ⟨j8, hj8, z8⟩ := r4.st
            exact ⟨j8, hj8, z8.kp kD (by simp; exact nsa.symm)⟩, r4.rm.kp kD (by simp; exact nra.symm)⟩
      · obtain ⟨rs, w1, w2, w3, w4, w5, w6, w7⟩ := wi
        have nD' := nD
        have b3 := ro2.names b2 w6
        have p3 := ro2.names p2 w6
        have kk3 := kk2.trans w6
        obtain ⟨i9, _, z9⟩ := id ro2.st
        have nsa : D ≠ sa := (z9.ne0 nD).symm
        have nra : D ≠ ra := (ro2.rm.ne0 nD).symm
        refine g_n7 (g_seq (g_asg (g_call (g_cons (g_v0 (g_cons (g_c (g_nil ?_))))))))
        refine ⟨sa, 2, rfl, w7.st, by omega, by omega, fun f' H4 g0 g1 k4 s4 => ?_⟩
        have ro4 := w7.next hne k4 s4
        have b4 := w7.names b3 (kp1 k4)
        have p4 := w7.names p3 (kp1 k4)
        have kk4 := kk3.trans (kp1 (ra := ra) k4)
        have hD4 : At H4 D (.lst acc) := hD.kp k4 (by simpa using nsa)
        have w24 : Al RwAt rs acc H4 := w2.imp fun x y z => RwAt.tx (w7.tx (kp1 k4)) x y z
        refine g_n6 (g_seq (g_asg (g_lcR (g_cons (g_v6 (g_nil ?_))))))
        refine ⟨f', rfl, by omega, by omega, lc_genR (ta := tNil) (lo := 0) (n := f'.toNat) (fun E i ac G => ∃ rt : List Row, rt.length = i ∧ Al RwAt rt ac G ∧ Row.oks bs ps rt ∧ Row.deeps rt ≤ d ∧ RelN d i (rm - 1 - Row.cnts rs) (rm - 1 - Row.cnts rs - Row.cnts rt) ∧ Kp [sa, ra] H4 G ∧ RoA sa ra (rm - 1 - Row.cnts rs - Row.cnts rt) G) (by omega)
          (fun E G nE e hE => ⟨[], rfl, rfl, by simp only [Row.oks], by simp only [Row.deeps]; omega, by simp only [Row.cnts, RelN]; omega, kp_ex e, by simpa [Row.cnts] using ro4.ex e⟩) (fun E i ac G nE hi hl wi hE Y N hY hN => ?_) (fun E ac G nE wi hE => ?_)⟩
        · obtain ⟨rt, w1, w2, w3, w4, w5, w6, w7⟩ := wi
          obtain ⟨i9, _, z9⟩ := id ro4.st
          have nsa : E ≠ sa := (z9.ne0 nE).symm
          have nra : E ≠ ra := (ro4.rm.ne0 nE).symm
          have b' := ro4.names b4 w6
          have p' := ro4.names p4 w6
          refine g_n12 (And.intro rfl (g_yes (g_iteT (g_call (g_cons (g_v0 (g_cons (g_v1 (g_cons (g_v2 (g_cons (g_op (g_v3 (g_c (g_I0 (g_cons (g_v4 (g_nil ?_))))))))))))))))))
          refine ⟨sa, ba, pa, ra, bs, ps, dp - 1, _, rfl, by omega, by omega, by omega, w7, hne, b', p', hbl, hbn, hpl, hpn, fun r u H4 a1 a2 a3 a4 k4 r4 => ?_⟩
          have tt := w7.tx k4
          have hD4 : At H4 E (.lst ac) := hE.kp k4 (by simp; exact ⟨nsa, nra⟩)
          have t5 : Tx H4 (upd H4 E (.lst (ac ++ [u]))) := tx_mut hD4
          have kD : Kp [E] H4 (upd H4 E (.lst (ac ++ [u]))) := kp_upd (by simp)
          obtain ⟨i8, _, z8⟩ := id r4.st
          refine hY u H4 hD4 ⟨rt ++ [r], by simp [w1], Al.snoc (w2.imp fun x y z => (RwAt.tx t5 x y (RwAt.tx tt x y z))) (RwAt.tx t5 _ _ a1), oks_snoc w3 a2, deeps_snoc w4 a3, ?_, ?_, ?_⟩
          · rw [cnts_snoc]
            refine ⟨_, w5, ?_⟩
            have e : rm - 1 - Row.cnts rs - ((Row.cnts rt + r.cnt : Nat) : Int) = rm - 1 - Row.cnts rs - (Row.cnts rt : Int) - (r.cnt : Int) := by omega
            rw [e]
            exact a4
          · intro x o hx nx
            have hx4 := (w6.trans k4) x o hx nx
            exact kD x o hx4 (by simp only [List.mem_singleton]; exact fun z => by subst z; rw [nE] at hx; cases hx)
          · rw [cnts_snoc]
            have e : rm - 1 - Row.cnts rs - ((Row.cnts rt + r.cnt : Nat) : Int) = rm - 1 - Row.cnts rs - (Row.cnts rt : Int) - (r.cnt : Int) := by omega
            rw [e]
            exact ⟨by
              obtain ⟨j8, hj8, z8⟩ := r4.st
              exact ⟨j8, hj8, z8.kp kD (by simp; exact nsa.symm)⟩, r4.rm.kp kD (by simp; exact nra.symm)⟩

        · obtain ⟨rt, v1, v2, v3, v4, v5, v6, v7⟩ := wi
          have b5 := ro4.names b4 v6
          have kk5 := kk4.trans v6
          have hD5 : At G D (.lst acc) := hD4.kp v6 (by simp; exact ⟨nsa, nra⟩)
          have t45 := ro4.tx v6
          refine g_n8 (g_ret (g_tup (g_cons (g_c (g_cons (g_call (g_cons (g_v0 (g_cons (g_v1 (g_cons (g_c (g_nil ?_)))))))))))))
          refine ⟨sa, ba, bs, 2, rfl, by omega, by omega, v7.st, b5, hbl, hbn, fun t u Hz tz okz dz zz kz sz => ?_⟩
          have roz := v7.next hne kz sz
          have tz5 := v7.tx (kp1 kz)
          have nE5 : E ≠ sa := by
            obtain ⟨i7, _, z7⟩ := id ro4.st
            exact (z7.ne0 nE).symm
          have hDz : At Hz D (.lst acc) := hD5.kp kz (by simpa using nsa)
          have hEz : At Hz E (.lst ac) := hE.kp kz (by simpa using nE5)
          refine g_cons (g_cb (g_cons (g_v7 (g_nil ?_))))
          refine g_tupL hDz (fun T1 Ha na ea ha => ?_)
          refine g_cons (g_cb (g_cons (g_v8 (g_nil ?_))))
          refine g_tupL (hEz.ex ea) (fun T2 Hb nb eb hb' => ?_)
          refine g_nil ?_
          refine g_tupN (by simp) (fun q Hc nq ec hq' => ?_)
          have eac := ea.trans (eb.trans ec)
          have rel := rel_if (d := d) (r := rm) (s := rm - 1) (x := rm - 1 - Row.cnts rs) (y := rm - 1 - Row.cnts rs - Row.cnts rt) (m1 := (1 + f).toNat) (m2 := f'.toNat) (by omega) (by omega) rfl (by omega) (by omega) (by omega) (by omega) w5 v5
          have ec' : rm - ((Row.ite t rs rt).cnt : Int) = rm - 1 - Row.cnts rs - Row.cnts rt := by
            simp only [Row.cnt]
            omega
          refine hq (.ite t rs rt) _ Hc ?_ (by unfold Row.ok; exact ⟨⟨okz, by omega, by simp only [tsz] at zz; omega⟩, w3, v3⟩) (by simp only [Row.deep]; omega) (by rw [ec']; exact rel) ((kk5.trans (kp1 kz)).trans (kp_ex eac)) (by rw [ec']; exact roz.ex eac)
          unfold RwAt
          exact ⟨q, u, T1, T2, acc, ac, rfl, hq', tz.ex eac, ha.ex (eb.trans ec), .of (w24.imp fun x y z => RwAt.tx (Tx.ex eac) x y (RwAt.tx tz5 x y (RwAt.tx t45 x y z))), hb'.ex ec, .of (v2.imp fun x y z => RwAt.tx (Tx.ex eac) x y (RwAt.tx tz5 x y z))⟩
    · have hf : (decide (way = 4) && (decide (1 < dp) && decide (2 + 2 * dp ≤ rm - 1))) = false := by
        rw [Bool.eq_false_iff]
        intro z
        simp only [Bool.and_eq_true, decide_eq_true_eq] at z
        exact h4 z
      refine g_rF hf ?_
      refine g_next (g_seq (g_ifs (g_and (g_tst (g_op (g_v5 (g_c (g_eqI (g_k ?_)))))))))
      have b1 := hro.names hb k01
      have p1 := hro.names hp k01
      have kk1 := k01
      have plen : 0 < ps.length := List.length_pos_iff.mpr hpn
      by_cases h5 : way = 5
      · refine g_ifD1 (h5) (g_tst (g_op (g_v1 (g_lst (g_nil ?_)))))
        refine g_lstN (by simp) (fun em H11 n11 e11 hem => ?_)
        have ro11 := ro1.ex e11
        have b11 := b1.ex e11
        have p11 := p1.ex e11
        have kk11 := kk1.trans (kp_ex e11)

        refine g_neNilS b11 hbn hem ?_
        by_cases hbe : bs = []
        · refine g_k (g_ifN0 (hbe) (g_next (g_seq (g_ifs (g_and (g_tst (g_op (g_v5 (g_c (g_I0 (g_k (g_ifD0 (by omega) (g_iteF (g_next (g_seq (g_asg (g_op (g_v2 (g_call (g_cons (g_v0 (g_cons (g_cb (g_cons (g_v2 (g_nil (g_lnL (by walk_at "hx") (g_nil ?_))))))))))))))))))))))))))))
          refine ⟨sa, _, rfl, ro11.st, by simp; omega, by simp; omega, fun g H12 g0 g1 k12 s12 => ?_⟩
          have ro12 := ro11.next hne k12 s12
          have b12 := ro11.names b11 (kp1 k12)
          have p12 := ro11.names p11 (kp1 k12)
          have kk12 := kk11.trans (kp1 (ra := ra) k12)
          obtain ⟨gi, rfl⟩ := Int.eq_ofNat_of_zero_le g0
          have hgi : gi < ps.length := by simpa using g1

          refine g_ixL (v := .str ps[gi]) p12 (at_nat (by rw [List.getElem?_map, List.getElem?_eq_getElem hgi]; rfl)) ?_
          refine g_n9 (g_seq (g_asg (g_op (g_c (g_call (g_cons (g_v0 (g_cons (g_op (g_lst (g_cons (g_c (g_cons (g_c (g_cons (g_c (g_nil ?_)))))))))))))))))
          refine g_lstN (by simp) (fun L1 H13 n13 e13 hL1 => ?_)
          have ro13 := ro12.ex e13
          have b13 := b12.ex e13
          have p13 := p12.ex e13
          have kk13 := kk12.trans (kp_ex e13)
          refine g_call (g_cons (g_v0 (g_cons (g_c (g_nil ?_)))))
          refine ⟨sa, 3, rfl, ro13.st, by omega, by omega, fun j H14 j0 j1 k14 s14 => ?_⟩
          have ro14 := ro13.next hne k14 s14
          have b14 := ro13.names b13 (kp1 k14)
          have p14 := ro13.names p13 (kp1 k14)
          have kk14 := kk13.trans (kp1 (ra := ra) k14)
          have hL1b : At H14 L1 (.lst [.int 3, .int 3, .int 20]) := by
            obtain ⟨i9, _, z9⟩ := id ro13.st
            exact kp_lst k14 z9 hL1 (by intro z; simp at z)

          have sp : ∃ mm : Int, 0 < mm ∧ mm ≤ 20 ∧ atI [V.int 3, V.int 3, V.int 20] j = some (.int mm) := by
            have jc : j = 0 ∨ j = 1 ∨ j = 2 := by omega
            rcases jc with rfl | rfl | rfl
            · exact ⟨3, by omega, by omega, rfl⟩
            · exact ⟨3, by omega, by omega, rfl⟩
            · exact ⟨20, by omega, by omega, rfl⟩
          obtain ⟨mm, mm0, mm1, mme⟩ := sp
          refine g_ixL hL1b mme ?_
          refine g_nil ?_
          refine ⟨sa, mm, rfl, ro14.st, by omega, by omega, fun sp H15 sp0 sp1 k15 s15 => ?_⟩
          have ro15 := ro14.next hne k15 s15
          have b15 := ro14.names b14 (kp1 k15)
          have p15 := ro14.names p14 (kp1 k15)
          have kk15 := kk14.trans (kp1 (ra := ra) k15)
          refine g_I0 (g_n10 (g_seq (g_asg (g_op (g_lst (g_cons (g_c (g_cons (g_c (g_cons (g_c (g_nil ?_))))))))))))
          refine g_lstN (by simp) (fun L2 H16 n16 e16 hL2 => ?_)
          have ro16 := ro15.ex e16
          have b16 := b15.ex e16
          have p16 := p15.ex e16
          have kk16 := kk15.trans (kp_ex e16)
          refine g_call (g_cons (g_v0 (g_cons (g_c (g_nil ?_)))))
          refine ⟨sa, 3, rfl, ro16.st, by omega, by omega, fun i H17 i0 i1 k17 s17 => ?_⟩
          have ro17 := ro16.next hne k17 s17
          have b17 := ro16.names b16 (kp1 k17)
          have p17 := ro16.names p16 (kp1 k17)
          have kk17 := kk16.trans (kp1 (ra := ra) k17)
          have hL2b : At H17 L2 (.lst [.str "go", .str "do", .str "on"]) := by
            obtain ⟨i9, _, z9⟩ := id ro16.st
            exact kp_lst k17 z9 hL2 (by intro z; simp at z)

          have kd : ∃ k ∈ kinds, atI [V.str "go", V.str "do", V.str "on"] i = some (.str k) := by
            have jc : i = 0 ∨ i = 1 ∨ i = 2 := by omega
            rcases jc with rfl | rfl | rfl
            · exact ⟨"go", by simp [kinds], rfl⟩
            · exact ⟨"do", by simp [kinds], rfl⟩
            · exact ⟨"on", by simp [kinds], rfl⟩
          obtain ⟨k, hk, hke⟩ := kd
          refine g_ixL hL2b hke ?_
          refine g_n11 (g_ret (g_tup (g_cons (g_c (g_cons (g_v9 (g_cons (g_v11 (g_cons (g_v10 (g_cons (g_call (g_cons (g_v0 (g_cons (g_v1 (g_cons (g_c (g_nil ?_)))))))))))))))))))
          refine ⟨sa, ba, bs, 2, rfl, by omega, by omega, ro17.st, b17, hbl, hbn, fun t u Hz tz okz dz zz kz sz => ?_⟩
          have roz := ro17.next hne kz sz
          refine g_nil ?_
          refine g_tupN (by simp) (fun q Hy ny ey hq' => ?_)
          exact plain (.send ps[gi] k (1 + sp) t) _ Hy (by unfold RwAt; exact ⟨q, u, rfl, hq', tz.ex ey⟩) (by unfold Row.ok; exact ⟨List.getElem_mem hgi, hk, by omega, by omega, okz, by omega, by simp only [tsz] at zz; omega⟩) (by unfold Row.cnt; rfl) (by unfold Row.deep; rfl) ((kk17.trans (kp1 kz)).trans (kp_ex ey)) (roz.ex ey)
        ·
          have blen : 0 < bs.length := List.length_pos_iff.mpr hbe
          refine g_k (g_ifN1 (hbe) (g_ret (g_tup (g_cons (g_c (g_cons (g_op (g_v1 (g_call (g_cons (g_v0 (g_cons (g_cb (g_cons (g_v1 (g_nil (g_lnL (by walk_at "hx") (g_nil ?_))))))))))))))))))
          refine ⟨sa, _, rfl, ro11.st, by simp; omega, by simp; omega, fun j H18 j0 j1 k18 s18 => ?_⟩
          have ro18 := ro11.next hne k18 s18
          have b18 := ro11.names b11 (kp1 k18)
          have p18 := ro11.names p11 (kp1 k18)
          have kk18 := kk11.trans (kp1 (ra := ra) k18)
          obtain ⟨i, rfl⟩ := Int.eq_ofNat_of_zero_le j0
          have hi : i < bs.length := by simpa using j1

          refine g_ixL (v := .str bs[i]) b18 (at_nat (by rw [List.getElem?_map, List.getElem?_eq_getElem hi]; rfl)) ?_
          refine g_cons (g_op (g_c (g_call (g_cons (g_v0 (g_cons (g_c (g_nil ?_))))))))
          refine ⟨sa, 3, rfl, ro18.st, by omega, by omega, fun m H19 m0 m1 k19 s19 => ?_⟩
          have ro19 := ro18.next hne k19 s19
          have b19 := ro18.names b18 (kp1 k19)
          have p19 := ro18.names p18 (kp1 k19)
          have kk19 := kk18.trans (kp1 (ra := ra) k19)
          refine g_I0 (g_nil ?_)
          refine g_tupN (by simp) (fun q Hy ny ey hq' => ?_)
          exact plain (.draw bs[i] (2 + m)) _ Hy (by unfold RwAt; exact ⟨q, rfl, hq'⟩) (by unfold Row.ok; exact ⟨List.getElem_mem hi, by omega, by omega⟩) (by unfold Row.cnt; rfl) (by unfold Row.deep; rfl) (kk19.trans (kp_ex ey)) (ro19.ex ey)
      ·
        refine g_ifD0 (h5) (g_iteF (g_next (g_seq (g_ifs (g_and (g_tst (g_op (g_v5 (g_c (g_I0 (g_k ?_)))))))))))
        by_cases h2 : way < 2
        · refine g_ifD1 (h2) (g_tst (g_op (g_v1 (g_lst (g_nil ?_)))))
          refine g_lstN (by simp) (fun em H20 n20 e20 hem => ?_)
          have ro20 := ro1.ex e20
          have b20 := b1.ex e20
          have p20 := p1.ex e20
          have kk20 := kk1.trans (kp_ex e20)

          refine g_neNilS b20 hbn hem ?_
          by_cases hbe : bs = []
          · refine g_k (g_ifN0 (hbe) (g_next (g_seq (g_asg (g_op (g_v2 (g_call (g_cons (g_v0 (g_cons (g_cb (g_cons (g_v2 (g_nil (g_lnL (by walk_at "hx") (g_nil ?_))))))))))))))))
            refine ⟨sa, _, rfl, ro20.st, by simp; omega, by simp; omega, fun g H21 g0 g1 k21 s21 => ?_⟩
            have ro21 := ro20.next hne k21 s21
            have b21 := ro20.names b20 (kp1 k21)
            have p21 := ro20.names p20 (kp1 k21)
            have kk21 := kk20.trans (kp1 (ra := ra) k21)
            obtain ⟨gi, rfl⟩ := Int.eq_ofNat_of_zero_le g0
            have hgi : gi < ps.length := by simpa using g1

            refine g_ixL (v := .str ps[gi]) p21 (at_nat (by rw [List.getElem?_map, List.getElem?_eq_getElem hgi]; rfl)) ?_
            refine g_n9 (g_seq (g_asg (g_op (g_c (g_call (g_cons (g_v0 (g_cons (g_op (g_lst (g_cons (g_c (g_cons (g_c (g_cons (g_c (g_nil ?_)))))))))))))))))
            refine g_lstN (by simp) (fun L1 H22 n22 e22 hL1 => ?_)
            have ro22 := ro21.ex e22
            have b22 := b21.ex e22
            have p22 := p21.ex e22
            have kk22 := kk21.trans (kp_ex e22)
            refine g_call (g_cons (g_v0 (g_cons (g_c (g_nil ?_)))))
            refine ⟨sa, 3, rfl, ro22.st, by omega, by omega, fun j H23 j0 j1 k23 s23 => ?_⟩
            have ro23 := ro22.next hne k23 s23
            have b23 := ro22.names b22 (kp1 k23)
            have p23 := ro22.names p22 (kp1 k23)
            have kk23 := kk22.trans (kp1 (ra := ra) k23)
            have hL1b : At H23 L1 (.lst [.int 3, .int 3, .int 20]) := by
              obtain ⟨i9, _, z9⟩ := id ro22.st
              exact kp_lst k23 z9 hL1 (by intro z; simp at z)

            have sp : ∃ mm : Int, 0 < mm ∧ mm ≤ 20 ∧ atI [V.int 3, V.int 3, V.int 20] j = some (.int mm) := by
              have jc : j = 0 ∨ j = 1 ∨ j = 2 := by omega
              rcases jc with rfl | rfl | rfl
              · exact ⟨3, by omega, by omega, rfl⟩
              · exact ⟨3, by omega, by omega, rfl⟩
              · exact ⟨20, by omega, by omega, rfl⟩
            obtain ⟨mm, mm0, mm1, mme⟩ := sp
            refine g_ixL hL1b mme ?_
            refine g_nil ?_
            refine ⟨sa, mm, rfl, ro23.st, by omega, by omega, fun sp H24 sp0 sp1 k24 s24 => ?_⟩
            have ro24 := ro23.next hne k24 s24
            have b24 := ro23.names b23 (kp1 k24)
            have p24 := ro23.names p23 (kp1 k24)
            have kk24 := kk23.trans (kp1 (ra := ra) k24)
            refine g_I0 (g_n10 (g_seq (g_asg (g_op (g_lst (g_cons (g_c (g_cons (g_c (g_cons (g_c (g_nil ?_))))))))))))
            refine g_lstN (by simp) (fun L2 H25 n25 e25 hL2 => ?_)
            have ro25 := ro24.ex e25
            have b25 := b24.ex e25
            have p25 := p24.ex e25
            have kk25 := kk24.trans (kp_ex e25)
            refine g_call (g_cons (g_v0 (g_cons (g_c (g_nil ?_)))))
            refine ⟨sa, 3, rfl, ro25.st, by omega, by omega, fun i H26 i0 i1 k26 s26 => ?_⟩
            have ro26 := ro25.next hne k26 s26
            have b26 := ro25.names b25 (kp1 k26)
            have p26 := ro25.names p25 (kp1 k26)
            have kk26 := kk25.trans (kp1 (ra := ra) k26)
            have hL2b : At H26 L2 (.lst [.str "go", .str "do", .str "on"]) := by
              obtain ⟨i9, _, z9⟩ := id ro25.st
              exact kp_lst k26 z9 hL2 (by intro z; simp at z)

            have kd : ∃ k ∈ kinds, atI [V.str "go", V.str "do", V.str "on"] i = some (.str k) := by
              have jc : i = 0 ∨ i = 1 ∨ i = 2 := by omega
              rcases jc with rfl | rfl | rfl
              · exact ⟨"go", by simp [kinds], rfl⟩
              · exact ⟨"do", by simp [kinds], rfl⟩
              · exact ⟨"on", by simp [kinds], rfl⟩
            obtain ⟨k, hk, hke⟩ := kd
            refine g_ixL hL2b hke ?_
            refine g_n11 (g_ret (g_tup (g_cons (g_c (g_cons (g_v9 (g_cons (g_v11 (g_cons (g_v10 (g_cons (g_call (g_cons (g_v0 (g_cons (g_v1 (g_cons (g_c (g_nil ?_)))))))))))))))))))
            refine ⟨sa, ba, bs, 2, rfl, by omega, by omega, ro26.st, b26, hbl, hbn, fun t u Hz tz okz dz zz kz sz => ?_⟩
            have roz := ro26.next hne kz sz
            refine g_nil ?_
            refine g_tupN (by simp) (fun q Hy ny ey hq' => ?_)
            exact plain (.send ps[gi] k (1 + sp) t) _ Hy (by unfold RwAt; exact ⟨q, u, rfl, hq', tz.ex ey⟩) (by unfold Row.ok; exact ⟨List.getElem_mem hgi, hk, by omega, by omega, okz, by omega, by simp only [tsz] at zz; omega⟩) (by unfold Row.cnt; rfl) (by unfold Row.deep; rfl) ((kk26.trans (kp1 kz)).trans (kp_ex ey)) (roz.ex ey)
          ·
            have blen : 0 < bs.length := List.length_pos_iff.mpr hbe
            refine g_k (g_ifN1 (hbe) (g_ret (g_tup (g_cons (g_c (g_cons (g_op (g_v1 (g_call (g_cons (g_v0 (g_cons (g_cb (g_cons (g_v1 (g_nil (g_lnL (by walk_at "hx") (g_nil ?_))))))))))))))))))
            refine ⟨sa, _, rfl, ro20.st, by simp; omega, by simp; omega, fun j H27 j0 j1 k27 s27 => ?_⟩
            have ro27 := ro20.next hne k27 s27
            have b27 := ro20.names b20 (kp1 k27)
            have p27 := ro20.names p20 (kp1 k27)
            have kk27 := kk20.trans (kp1 (ra := ra) k27)
            obtain ⟨i, rfl⟩ := Int.eq_ofNat_of_zero_le j0
            have hi : i < bs.length := by simpa using j1

            refine g_ixL (v := .str bs[i]) b27 (at_nat (by rw [List.getElem?_map, List.getElem?_eq_getElem hi]; rfl)) ?_
            refine g_cons (g_call (g_cons (g_v0 (g_cons (g_v1 (g_cons (g_c (g_nil ?_))))))))
            refine ⟨sa, ba, bs, 3, rfl, by omega, by omega, ro27.st, b27, hbl, hbn, fun t u Hz tz okz dz zz kz sz => ?_⟩
            have roz := ro27.next hne kz sz
            refine g_nil ?_
            refine g_tupN (by simp) (fun q Hy ny ey hq' => ?_)
            exact plain (.set bs[i] t) _ Hy (by unfold RwAt; exact ⟨q, u, rfl, hq', tz.ex ey⟩) (by unfold Row.ok; exact ⟨List.getElem_mem hi, okz, by omega, by simp only [tsz] at zz; omega⟩) (by unfold Row.cnt; rfl) (by unfold Row.deep; rfl) ((kk27.trans (kp1 kz)).trans (kp_ex ey)) (roz.ex ey)
        ·
          refine g_ifD0 (h2) (g_iteF (g_next (g_seq (g_asg (g_op (g_v2 (g_call (g_cons (g_v0 (g_cons (g_cb (g_cons (g_v2 (g_nil (g_lnL (by walk_at "hx") (g_nil ?_))))))))))))))))
          refine ⟨sa, _, rfl, ro1.st, by simp; omega, by simp; omega, fun g H28 g0 g1 k28 s28 => ?_⟩
          have ro28 := ro1.next hne k28 s28
          have b28 := ro1.names b1 (kp1 k28)
          have p28 := ro1.names p1 (kp1 k28)
          have kk28 := kk1.trans (kp1 (ra := ra) k28)
          obtain ⟨gi, rfl⟩ := Int.eq_ofNat_of_zero_le g0
          have hgi : gi < ps.length := by simpa using g1

          refine g_ixL (v := .str ps[gi]) p28 (at_nat (by rw [List.getElem?_map, List.getElem?_eq_getElem hgi]; rfl)) ?_
          refine g_n9 (g_seq (g_asg (g_op (g_c (g_call (g_cons (g_v0 (g_cons (g_op (g_lst (g_cons (g_c (g_cons (g_c (g_cons (g_c (g_nil ?_)))))))))))))))))
          refine g_lstN (by simp) (fun L1 H29 n29 e29 hL1 => ?_)
          have ro29 := ro28.ex e29
          have b29 := b28.ex e29
          have p29 := p28.ex e29
          have kk29 := kk28.trans (kp_ex e29)
          refine g_call (g_cons (g_v0 (g_cons (g_c (g_nil ?_)))))
          refine ⟨sa, 3, rfl, ro29.st, by omega, by omega, fun j H30 j0 j1 k30 s30 => ?_⟩
          have ro30 := ro29.next hne k30 s30
          have b30 := ro29.names b29 (kp1 k30)
          have p30 := ro29.names p29 (kp1 k30)
          have kk30 := kk29.trans (kp1 (ra := ra) k30)
          have hL1b : At H30 L1 (.lst [.int 3, .int 3, .int 20]) := by
            obtain ⟨i9, _, z9⟩ := id ro29.st
            exact kp_lst k30 z9 hL1 (by intro z; simp at z)

          have sp : ∃ mm : Int, 0 < mm ∧ mm ≤ 20 ∧ atI [V.int 3, V.int 3, V.int 20] j = some (.int mm) := by
            have jc : j = 0 ∨ j = 1 ∨ j = 2 := by omega
            rcases jc with rfl | rfl | rfl
            · exact ⟨3, by omega, by omega, rfl⟩
            · exact ⟨3, by omega, by omega, rfl⟩
            · exact ⟨20, by omega, by omega, rfl⟩
          obtain ⟨mm, mm0, mm1, mme⟩ := sp
          refine g_ixL hL1b mme ?_
          refine g_nil ?_
          refine ⟨sa, mm, rfl, ro30.st, by omega, by omega, fun sp H31 sp0 sp1 k31 s31 => ?_⟩
          have ro31 := ro30.next hne k31 s31
          have b31 := ro30.names b30 (kp1 k31)
          have p31 := ro30.names p30 (kp1 k31)
          have kk31 := kk30.trans (kp1 (ra := ra) k31)
          refine g_I0 (g_n10 (g_seq (g_asg (g_op (g_lst (g_cons (g_c (g_cons (g_c (g_cons (g_c (g_nil ?_))))))))))))
          refine g_lstN (by simp) (fun L2 H32 n32 e32 hL2 => ?_)
          have ro32 := ro31.ex e32
          have b32 := b31.ex e32
          have p32 := p31.ex e32
          have kk32 := kk31.trans (kp_ex e32)
          refine g_call (g_cons (g_v0 (g_cons (g_c (g_nil ?_)))))
          refine ⟨sa, 3, rfl, ro32.st, by omega, by omega, fun i H33 i0 i1 k33 s33 => ?_⟩
          have ro33 := ro32.next hne k33 s33
          have b33 := ro32.names b32 (kp1 k33)
          have p33 := ro32.names p32 (kp1 k33)
          have kk33 := kk32.trans (kp1 (ra := ra) k33)
          have hL2b : At H33 L2 (.lst [.str "go", .str "do", .str "on"]) := by
            obtain ⟨i9, _, z9⟩ := id ro32.st
            exact kp_lst k33 z9 hL2 (by intro z; simp at z)

          have kd : ∃ k ∈ kinds, atI [V.str "go", V.str "do", V.str "on"] i = some (.str k) := by
            have jc : i = 0 ∨ i = 1 ∨ i = 2 := by omega
            rcases jc with rfl | rfl | rfl
            · exact ⟨"go", by simp [kinds], rfl⟩
            · exact ⟨"do", by simp [kinds], rfl⟩
            · exact ⟨"on", by simp [kinds], rfl⟩
          obtain ⟨k, hk, hke⟩ := kd
          refine g_ixL hL2b hke ?_
          refine g_n11 (g_ret (g_tup (g_cons (g_c (g_cons (g_v9 (g_cons (g_v11 (g_cons (g_v10 (g_cons (g_call (g_cons (g_v0 (g_cons (g_v1 (g_cons (g_c (g_nil ?_)))))))))))))))))))
          refine ⟨sa, ba, bs, 2, rfl, by omega, by omega, ro33.st, b33, hbl, hbn, fun t u Hz tz okz dz zz kz sz => ?_⟩
          have roz := ro33.next hne kz sz
          refine g_nil ?_
          refine g_tupN (by simp) (fun q Hy ny ey hq' => ?_)
          exact plain (.send ps[gi] k (1 + sp) t) _ Hy (by unfold RwAt; exact ⟨q, u, rfl, hq', tz.ex ey⟩) (by unfold Row.ok; exact ⟨List.getElem_mem hgi, hk, by omega, by omega, okz, by omega, by simp only [tsz] at zz; omega⟩) (by unfold Row.cnt; rfl) (by unfold Row.deep; rfl) ((kk33.trans (kp1 kz)).trans (kp_ex ey)) (roz.ex ey)
end
end PM
/-! part F23 -/
namespace PM
open PySem PySem.Spec PyProof.Rows L2 PMH
open Evl (Ex)

local macro_rules | `(tactic| walk_at "ex") => `(tactic| first
  | with_reducible assumption
  | with_reducible exact Evl.Ex.refl _
  | (refine Evl.Ex.trans ?_ (by with_reducible assumption); walk_at "ex"))
local macro_rules | `(tactic| walk_at "hx") => `(tactic| first
  | with_reducible assumption
  | (refine At.ex (by with_reducible assumption) ?_; walk_at "ex")
  | (refine Fz.tx (by with_reducible assumption) ?_; walk_at "tx")
  | (refine TrAt.ex (by with_reducible assumption) ?_; walk_at "ex")
  | (refine MlAt.tx ?_ (by with_reducible assumption); walk_at "tx")
  | (refine PlAt.tx ?_ (by with_reducible assumption); walk_at "tx")
  | (refine LtAt.tx ?_ (by with_reducible assumption); walk_at "tx")
  | (refine GvAt.tx ?_ (by with_reducible assumption); walk_at "tx")
  | (refine WsAt.tx ?_ (by with_reducible assumption); walk_at "tx")
  | (refine RwAt.tx ?_ _ _ (by with_reducible assumption); walk_at "tx")
  | (refine RwsAt.tx ?_ _ _ (by with_reducible assumption); walk_at "tx")
  | (refine RuAt.tx ?_ (by with_reducible assumption); walk_at "tx")
  | (refine PrAt.tx ?_ (by with_reducible assumption); walk_at "tx"))
local macro_rules | `(tactic| walk_at "num") => `(tactic| first
  | with_reducible assumption
  | decide
  | exact Or.inl ⟨by omega, by omega⟩
  | exact Or.inr ⟨by omega, by omega⟩
  | (refine ⟨?_, ?_⟩ <;> omega)
  | (show (0 : Int) < _; omega))
local macro_rules | `(tactic| walk_at "tx") => `(tactic| first
  | with_reducible assumption
  | (refine Tx.ex ?_; walk_at "ex"))
local macro_rules | `(tactic| walk_at "sz") => `(tactic| first
  | with_reducible assumption
  | omega
  | (refine Evl.sz_of ?_; omega)
  | (refine Evl.sz_lt ?_; omega))
local macro_rules | `(tactic| walk_at "fl") => `(tactic| first
  | rfl
  | decide +kernel)

theorem kp_drop {a F : Addr} {H H1 H2 : Hp} (k : Kp [a] H H1) (k2 : Kp [a, F] H1 H2) (n : H F = none) : Kp [a] H H2 := fun x o h m => k2 x o (k x o h m) fun q => by
  simp only [List.mem_cons, List.not_mem_nil, or_false] at q
  rcases q with rfl | rfl
  · exact m (by simp)
  · rw [n] at h
    cases h
theorem kp2_tx {a R : Addr} {xs : List V} {H H' : Hp} (h1 : StA a H) (h2 : At H R (.lst xs)) (k : Kp [a, R] H H') : Tx H H' := by
  obtain ⟨i, _, h1⟩ := h1
  refine tx_kp k fun b hb u f e => ?_
  simp only [List.mem_cons, List.not_mem_nil, or_false] at hb
  rcases hb with rfl | rfl
  · rw [h1] at e; cases e; exact f
  · rw [h2] at e; cases e; exact f
theorem kp_none {a x : Addr} {H H' : Hp} (k : Kp [a] H H') (n : H' x = none) (ne : x ≠ a) : H x = none := by
  cases q : H x with
  | none => rfl
  | some o =>
    have := k x o q (by simpa using ne)
    rw [n] at this
    cases this
theorem rel3 {i : Nat} {x : Int} (hi : i ≤ 3) (h : RelN 3 i 12 x) : 0 ≤ x := by
  have e : i = 0 ∨ i = 1 ∨ i = 2 ∨ i = 3 := by omega
  rcases e with rfl | rfl | rfl | rfl
  · have h : (12 : Int) = x := h
    omega
  · obtain ⟨y, hy, r⟩ := h
    have hy : (12 : Int) = y := hy
    unfold Rel1 at r
    omega
  · obtain ⟨z, ⟨y, hy, r⟩, r2⟩ := h
    have hy : (12 : Int) = y := hy
    unfold Rel1 at r r2
    omega
  · obtain ⟨z2, ⟨z, ⟨y, hy, r⟩, r2⟩, r3⟩ := h
    have hy : (12 : Int) = y := hy
    unfold Rel1 at r r2 r3
    omega
def RuOk (bs ps : List Nm) (q : Nm × List Row) : Prop := q.1 ∈ kinds ∧ Row.oks bs ps q.2 ∧ Row.deeps q.2 ≤ 3 ∧ Row.cnts q.2 ≤ 12 ∧ q.2.length ≤ 3
section
variable {P : Program} {w : World} {K : PySem.W.Frag} {mg : Str → Option Value} {base : Heap}
def sp_law_mill_tree (K : PySem.W.Frag) : Sp := fun vs H Q _ => ∃ sa : Addr, vs = [.ref sa] ∧ StA sa H ∧ ∀ m v H', MlAt m v H' → MlOk m → Kp [sa] H H' → StA sa H' → Q v H'
abbrev N_law_mill_tree : List Str := ["_law_state", "_law_far", "_law_names", "_law_found", "_law_name", "_law_boxes", "_law_pairs", "_law_rules", "_law_kind", "_law_many", "_law_room", "_law_rows", "_law_box", "_law_k"]
theorem sc_law_mill_tree : FnScope N_law_mill_tree ["_law_state"] (defScope s_law_mill_tree) := ⟨rfl, rfl, rfl, by decide +kernel, rfl, by decide +kernel, by decide +kernel⟩
theorem ok_law_mill_tree (T : TX w K mg)  : Fn P w K mg base CX0 (10) "_law_mill_tree" ["_law_state"] (sp_law_mill_tree K) := by
  have f_law_next := ok_law_next (P := P) (base := base) T
  have f_law_row := ok_law_row (P := P) (base := base) T 3
  obtain ⟨fd, F⟩ := T.d_law_mill_tree
  refine mk_fn F T.g_law_mill_tree sc_law_mill_tree (fun vs H Q E h => by obtain ⟨_, rfl, _⟩ := h; rfl) (fun _ _ _ _ _ _ us hl => match us, hl with | [_], _ => rfl) (fun cdv A outer s H vs Q E hr h => ?_)
  obtain ⟨sa, rfl, hs, hq⟩ := h
  have hu := hu_of hr
  refine ⟨(tSeq (tAsg (tCall sp_law_next [] E0 (tCons (tVar 0) (tCons (tC (.int 4)) tNil))) (gName 1)) (tSeq (tAsg (tOp (rIxL K) (tLst (tCons (tLst (tCons (tC (.str "a")) (tCons (tC (.str "b")) (tCons (tC (.str "c")) (tCons (tC (.str "d")) tNil))))) (tCons (tLst (tCons (tC (.str "d")) (tCons (tC (.str "b")) (tCons (tC (.str "a")) (tCons (tC (.str "c")) tNil))))) (tCons (tLst (tCons (tC (.str "b")) (tCons (tC (.str "d")) (tCons (tC (.str "c")) (tCons (tC (.str "a")) tNil))))) (tCons (tLst (tCons (tC (.str "x")) (tCons (tC (.str "ab")) (tCons (tC (.str "a")) (tCons (tC (.str "go")) tNil))))) tNil))))) (tVar 1)) (gName 2)) (tSeq (tAsg (tSl (rSlL K) (tVar 2) tNoPart (tPart (tOp rAddI (tC (.int 1)) (tCall sp_law_next [] E0 (tCons (tVar 0) (tCons (tC (.int 4)) tNil)))))) (gName 2)) (tSeq (tAsg (tLst tNil) (gName 3)) (tSeq (tFor (iList K (tVar 2)) (gName 4) (tSeq (tAsg (tSl (rSlL K) (tOp (rIxL K) (tLst (tCons (tLst (tCons (tC (.str "x")) (tCons (tC (.str "y")) (tCons (tC (.str "loads")) tNil)))) (tCons (tLst (tCons (tC (.str "x")) (tCons (tC (.str "bx")) (tCons (tC (.str "go")) tNil)))) tNil))) (tOp rDivI (tVar 1) (tC (.int 3)))) tNoPart (tPart (tCall sp_law_next [] E0 (tCons (tVar 0) (tCons (tC (.int 4)) tNil))))) (gName 5)) (tSeq (tAsg (tCB (rTupF K) (tCons (tLc (iList K (tVar 5)) (gName 12) tYes (tTup (tCons (tVar 12) (tCons (tCall sp_law_next [] E0 (tCons (tVar 0) (tCons (tC (.int 100)) tNil))) tNil))) [12]) tNil)) (gName 6)) (tSeq (tAsg (tLst tNil) (gName 7)) (tSeq (tFor (iList K (tSl (rSlL K) (tLst (tCons (tC (.str "go")) (tCons (tC (.str "do")) (tCons (tC (.str "on")) tNil)))) tNoPart (tPart (tCall sp_law_next [] E0 (tCons (tVar 0) (tCons (tC (.int 4)) tNil)))))) (gName 8) (tSeq (tAsg (tOp rAddI (tC (.int 1)) (tCall sp_law_next [] E0 (tCons (tVar 0) (tCons (tC (.int 3)) tNil)))) (gName 9)) (tSeq (tAsg (tLst (tCons (tC (.int 12)) tNil)) (gName 10)) (tSeq (tAsg (tLc (iRng1 (tCons (tVar 9) tNil)) (gName 13) tYes (tCall (sp_law_row 3) [] E0 (tCons (tVar 0) (tCons (tVar 5) (tCons (tVar 2) (tCons (tC (.int 3)) (tCons (tVar 10) tNil)))))) [13]) (gName 11)) (tDrop (tBM K "list" rAppend (tVar 7) (tCons (tTup (tCons (tVar 8) (tCons (tCB (rTupS K) (tCons (tVar 11) tNil)) tNil))) tNil))))))) (tDrop (tBM K "list" rAppend (tVar 3) (tCons (tTup (tCons (tVar 4) (tCons (tVar 6) (tCons (tCB (rTupS K) (tCons (tVar 7) tNil)) tNil)))) tNil)))))))) (tRet (tCB (rTupS K) (tCons (tVar 3) tNil)))))))),
      (pss_cons (ps_set (i := 1) sc_law_mill_tree.nd rfl (Or.inl rfl) (f_law_next.ex.elim fun _ q => q.elim fun _ q => pe_call q.1 (hr.mono (by omega)) (by rfl) q.2.1 q.2.2.1 q.2.2.2 .nil pass0 (pa_cons (pv 0) (pa_cons pe_int pa_nil))))
      (pss_cons (ps_set (i := 2) sc_law_mill_tree.nd rfl (Or.inr rfl) (pe_ix ix_list (pe_lst (pa_cons (pe_lst (pa_cons pe_str (pa_cons pe_str (pa_cons pe_str (pa_cons pe_str pa_nil))))) (pa_cons (pe_lst (pa_cons pe_str (pa_cons pe_str (pa_cons pe_str (pa_cons pe_str pa_nil))))) (pa_cons (pe_lst (pa_cons pe_str (pa_cons pe_str (pa_cons pe_str (pa_cons pe_str pa_nil))))) (pa_cons (pe_lst (pa_cons pe_str (pa_cons pe_str (pa_cons pe_str (pa_cons pe_str pa_nil))))) pa_nil))))) (pv 1) (fun _ _ => rfl)))
      (pss_cons (ps_set (i := 2) sc_law_mill_tree.nd rfl (Or.inr rfl) (pe_slice sl_list (pv 2) po_none (po_some (pe_op op_add pe_int (f_law_next.ex.elim fun _ q => q.elim fun _ q => pe_call q.1 (hr.mono (by omega)) (by rfl) q.2.1 q.2.2.1 q.2.2.2 .nil pass0 (pa_cons (pv 0) (pa_cons pe_int pa_nil)))))))
      (pss_cons (ps_set (i := 3) sc_law_mill_tree.nd rfl (Or.inl rfl) (pe_lst pa_nil))
      (pss_cons (ps_for PassesOwn.never rfl (pi_list (pv 2)) (pg_name (i := 4) sc_law_mill_tree.nd rfl (Or.inl rfl)) (pss_cons (ps_set (i := 5) sc_law_mill_tree.nd rfl (Or.inr rfl) (pe_slice sl_list (pe_ix ix_list (pe_lst (pa_cons (pe_lst (pa_cons pe_str (pa_cons pe_str (pa_cons pe_str pa_nil)))) (pa_cons (pe_lst (pa_cons pe_str (pa_cons pe_str (pa_cons pe_str pa_nil)))) pa_nil))) (pe_op op_fdiv (pv 1) pe_int) (fun _ _ => rfl)) po_none (po_some (f_law_next.ex.elim fun _ q => q.elim fun _ q => pe_call q.1 (hr.mono (by omega)) (by rfl) q.2.1 q.2.2.1 q.2.2.2 .nil pass0 (pa_cons (pv 0) (pa_cons pe_int pa_nil))))))
      (pss_cons (ps_set (i := 6) sc_law_mill_tree.nd rfl (Or.inl rfl) (pe_callTy cl_tupF (by rfl) T.b_tuple bt_tuple (pa_cons (pe_lc (own := [("_law_box", 12)]) (wi := (iList K (tVar 5))) (g := (gName 12)) (tt := tYes) (te := (tTup (tCons (tVar 12) (tCons (tCall sp_law_next [] E0 (tCons (tVar 0) (tCons (tC (.int 100)) tNil))) tNil)))) rfl sc_law_mill_tree.nd (pi_list (pv 5)) (blkOk_by (N := N_law_mill_tree) (sc := defScope s_law_mill_tree) (by decide +kernel)) (fun _ _ _ _ _ => (pg_name (i := 12) sc_law_mill_tree.nd rfl (Or.inl rfl))) (fun _ _ _ _ _ => pts_nil) (fun _ _ _ _ _ => (pe_tup (pa_cons (pv 12) (pa_cons (f_law_next.ex.elim fun _ q => q.elim fun _ q => pe_call q.1 (hr.mono (by omega)) (by rfl) q.2.1 q.2.2.1 q.2.2.2 .nil pass0 (pa_cons (pv 0) (pa_cons pe_int pa_nil))) pa_nil))))) pa_nil)))
      (pss_cons (ps_set (i := 7) sc_law_mill_tree.nd rfl (Or.inl rfl) (pe_lst pa_nil))
      (pss_cons (ps_for PassesOwn.never rfl (pi_list (pe_slice sl_list (pe_lst (pa_cons pe_str (pa_cons pe_str (pa_cons pe_str pa_nil)))) po_none (po_some (f_law_next.ex.elim fun _ q => q.elim fun _ q => pe_call q.1 (hr.mono (by omega)) (by rfl) q.2.1 q.2.2.1 q.2.2.2 .nil pass0 (pa_cons (pv 0) (pa_cons pe_int pa_nil)))))) (pg_name (i := 8) sc_law_mill_tree.nd rfl (Or.inl rfl)) (pss_cons (ps_set (i := 9) sc_law_mill_tree.nd rfl (Or.inl rfl) (pe_op op_add pe_int (f_law_next.ex.elim fun _ q => q.elim fun _ q => pe_call q.1 (hr.mono (by omega)) (by rfl) q.2.1 q.2.2.1 q.2.2.2 .nil pass0 (pa_cons (pv 0) (pa_cons pe_int pa_nil)))))
      (pss_cons (ps_set (i := 10) sc_law_mill_tree.nd rfl (Or.inr rfl) (pe_lst (pa_cons pe_int pa_nil)))
      (pss_cons (ps_setLc (i := 11) (own := [("_law_k", 13)]) (wi := (iRng1 (tCons (tVar 9) tNil))) (g := (gName 13)) (tt := tYes) (te := (tCall (sp_law_row 3) [] E0 (tCons (tVar 0) (tCons (tVar 5) (tCons (tVar 2) (tCons (tC (.int 3)) (tCons (tVar 10) tNil))))))) rfl sc_law_mill_tree.nd rfl rfl (sw_true rfl rfl rfl (by decide +kernel)) (pi_range1 (by rfl) T.b_range (pa_cons (pv 9) pa_nil)) (blkOk_by (N := N_law_mill_tree) (sc := defScope s_law_mill_tree) (by decide +kernel)) (fun _ _ _ _ _ => (pg_name (i := 13) sc_law_mill_tree.nd rfl (Or.inl rfl))) (fun _ _ _ _ _ => pts_nil) (fun _ _ _ _ _ => (f_law_row.ex.elim fun _ q => q.elim fun _ q => pe_call q.1 (hr.mono (by omega)) (by rfl) q.2.1 q.2.2.1 q.2.2.2 .nil pass0 (pa_cons (pv 0) (pa_cons (pv 5) (pa_cons (pv 2) (pa_cons pe_int (pa_cons (pv 10) pa_nil))))))))
      (pss_one (ps_expr (pe_bm PySem.F.plainAttrs_list PySem.F.slot_list_append PySem.F.type_list_append mt_append (pv 7) (pa_cons (pe_tup (pa_cons (pv 8) (pa_cons (pe_callTy cl_tuple (by rfl) T.b_tuple bt_tuple (pa_cons (pv 11) pa_nil)) pa_nil))) pa_nil))))))))
      (pss_one (ps_expr (pe_bm PySem.F.plainAttrs_list PySem.F.slot_list_append PySem.F.type_list_append mt_append (pv 3) (pa_cons (pe_tup (pa_cons (pv 4) (pa_cons (pv 6) (pa_cons (pe_callTy cl_tuple (by rfl) T.b_tuple bt_tuple (pa_cons (pv 7) pa_nil)) pa_nil)))) pa_nil)))))))))
      (pss_one (ps_ret (pe_callTy cl_tuple (by rfl) T.b_tuple bt_tuple (pa_cons (pv 3) pa_nil))))))))), ?_⟩
  refine g_start (σ' := [some _, none, none, none, none, none, none, none, none, none, none, none, none, none]) rfl ?_
  refine g_seq (g_asg (g_call (g_cons (g_v0 (g_cons (g_c (g_nil ?_)))))))
  refine ⟨sa, 4, rfl, hs, by omega, by omega, fun far H1 r0 r4 k1 s1 => ?_⟩
  refine g_n1 (g_seq (g_asg (g_op (g_lst (g_cons (g_lst (g_cons (g_c (g_cons (g_c (g_cons (g_c (g_cons (g_c (g_nil ?_)))))))))))))))
  refine g_lstN (by simp) (fun l0 H2 n2 e2 h0 => ?_)
  refine g_cons (g_lst (g_cons (g_c (g_cons (g_c (g_cons (g_c (g_cons (g_c (g_nil ?_))))))))))
  refine g_lstN (by simp) (fun l1 H3 n3 e3 h1 => ?_)
  refine g_cons (g_lst (g_cons (g_c (g_cons (g_c (g_cons (g_c (g_cons (g_c (g_nil ?_))))))))))
  refine g_lstN (by simp) (fun l2 H4 n4 e4 h2 => ?_)
  refine g_cons (g_lst (g_cons (g_c (g_cons (g_c (g_cons (g_c (g_cons (g_c (g_nil ?_))))))))))
  refine g_lstN (by simp) (fun l3 H5 n5 e5 h3 => ?_)
  refine g_nil ?_
  refine g_lstN (by simp) (fun l4 H6 n6 e6 h4 => ?_)
  refine g_v1 ?_
  have e16 := e2.trans (e3.trans (e4.trans (e5.trans e6)))
  have pick : ∃ (l : Addr) (nm : List Nm), atI [V.ref l0, V.ref l1, V.ref l2, V.ref l3] far = some (.ref l) ∧ At H6 l (.lst (sV nm)) ∧ nm.Nodup ∧ (∀ n ∈ nm, n ∈ nmsP) ∧ nm.length = 4 := by
    have fc : far = 0 ∨ far = 1 ∨ far = 2 ∨ far = 3 := by omega
    rcases fc with rfl | rfl | rfl | rfl
    · exact ⟨l0, ["a", "b", "c", "d"], rfl, h0.ex (e3.trans (e4.trans (e5.trans e6))), by decide +kernel, by decide +kernel, rfl⟩
    · exact ⟨l1, ["d", "b", "a", "c"], rfl, h1.ex (e4.trans (e5.trans e6)), by decide +kernel, by decide +kernel, rfl⟩
    · exact ⟨l2, ["b", "d", "c", "a"], rfl, h2.ex (e5.trans e6), by decide +kernel, by decide +kernel, rfl⟩
    · exact ⟨l3, ["x", "ab", "a", "go"], rfl, h3.ex e6, by decide +kernel, by decide +kernel, rfl⟩
  obtain ⟨l, nm, hpk, hl, hnd, hnp, hn4⟩ := pick
  refine g_ixL h4 hpk ?_
  have s6 := s1.ex e16
  have k6 := k1.trans (kp_ex e16)
  refine g_n2 (g_seq (g_asg (g_sl (g_v2 (g_po0 (g_po (g_op (g_c (g_call (g_cons (g_v0 (g_cons (g_c (g_nil ?_))))))))))))))
  refine ⟨sa, 4, rfl, s6, by omega, by omega, fun f H7 f0 f4 k7 s7 => ?_⟩
  have hl7 := s6.names hl k7
  have k07 := k6.trans k7
  obtain ⟨fn, rfl⟩ := Int.eq_ofNat_of_zero_le f0
  refine g_I0 (g_poI ?_)
  refine g_slL hl7 (fun nl H8 n8 e8 h8 => ?_)
  rw [show (1 : Int) + (fn : Int) = ((1 + fn : Nat) : Int) by omega, cut_lo, ← List.map_take] at h8
  refine g_n2 (g_seq (g_asg (g_lst (g_nil ?_))))
  refine g_lstN (by simp) (fun F H9 n9 e9 hF => ?_)
  have hnl : At H9 nl (.lst (sV (nm.take (1 + fn)))) := h8.ex e9
  have s9 := s7.ex (e8.trans e9)
  have k09 := k07.trans (kp_ex (e8.trans e9))
  generalize hns : nm.take (1 + fn) = ns at hnl
  have hnsl : ns.length = 1 + fn := by rw [← hns, List.length_take]; omega
  have hnsn : ns.Nodup := by rw [← hns]; exact hnd.sublist (List.take_sublist _ _)
  have hnsp : ∀ n ∈ ns, n ∈ nmsP := by rw [← hns]; exact fun n h => hnp n (List.mem_of_mem_take h)
  have nlsa : nl ≠ sa := by
    obtain ⟨i9, _, z9⟩ := id s9
    exact hnl.ne z9 fun z => (by cases ns <;> simp at z)
  have nlF : nl ≠ F := hnl.ne hF fun z => (by
    have z := congrArg (fun o : HO => match o with | .lst xs => xs.length | _ => 0) z
    simp at z
    subst z
    simp at hnsl
    omega)
  have Fsa : F ≠ sa := by
    obtain ⟨i9, _, z9⟩ := id (s7.ex e8)
    exact (z9.ne0 n9).symm
  have nF : H F = none := by
    cases q : H F with
    | none => rfl
    | some o =>
      have := (k07.trans (kp_ex e8)) F o q (by simpa using Fsa)
      rw [n9] at this
      cases this
  refine g_n3 (g_seq (g_forL (g_v2 ?_)))
  refine fo_L hnl (fun i σ' H' => (∃ x4 x5 x6 x7 x8 x9 x10 x11 x12 x13, σ' = [some (.ref sa), some (.int far), some (.ref nl), some (.ref F), x4, x5, x6, x7, x8, x9, x10, x11, x12, x13]) ∧ Kp [sa, F] H9 H' ∧ StA sa H' ∧ ∃ (us : List V) (ms : List Pl), At H' F (.lst us) ∧ Al PlAt ms us H' ∧ ms.map (·.name) = ns.take i ∧ ∀ p ∈ ms, PlOk ns p)
    ⟨⟨_, _, _, _, _, _, _, _, _, _, rfl⟩, Kp.refl, s9, [], [], hF, rfl, rfl, fun p h => by cases h⟩ (fun i σ' H' w1 => hnl.kp w1.2.1 (by simp; exact ⟨nlsa, nlF⟩)) (fun i u σ' H' hi w1 => ?_) (fun σ' H' w1 => ?_)
  · obtain ⟨⟨x4, x5, x6, x7, x8, x9, x10, x11, x12, x13, rfl⟩, w2, w3, us, ms, w4, w5, w6, w7⟩ := w1
    rw [List.getElem?_map] at hi
    obtain ⟨n, hn, rfl⟩ := Option.map_eq_some_iff.mp hi
    refine g_n4 (g_seq (g_asg (g_sl (g_op (g_lst (g_cons (g_lst (g_cons (g_c (g_cons (g_c (g_cons (g_c (g_nil ?_))))))))))))))
    refine g_lstN (by simp) (fun q0 J1 m1 a1 c0 => ?_)
    refine g_cons (g_lst (g_cons (g_c (g_cons (g_c (g_cons (g_c (g_nil ?_))))))))
    refine g_lstN (by simp) (fun q1 J2 m2 a2 c1 => ?_)
    refine g_nil ?_
    refine g_lstN (by simp) (fun q2 J3 m3 a3 c2 => ?_)
    refine g_op (g_v1 (g_c (g_I (by walk_at "num") ?_)))
    have pick : ∃ (l : Addr) (bm : List Nm), atI [V.ref q0, V.ref q1] (far / 3) = some (.ref l) ∧ At J3 l (.lst (sV bm)) ∧ bm.Nodup ∧ (∀ n ∈ bm, n ∈ nmsB) ∧ bm.length = 3 := by
      have fc : far / 3 = 0 ∨ far / 3 = 1 := by omega
      rcases fc with h | h
      · rw [h]
        exact ⟨q0, ["x", "y", "loads"], rfl, c0.ex (a2.trans a3), by decide +kernel, by decide +kernel, rfl⟩
      · rw [h]
        exact ⟨q1, ["x", "bx", "go"], rfl, c1.ex a3, by decide +kernel, by decide +kernel, rfl⟩
    obtain ⟨bl, bm, hbk, hbl, hbnd, hbnp, hbn3⟩ := pick
    refine g_ixL c2 hbk ?_
    have a13 := a1.trans (a2.trans a3)
    have u3 := w3.ex a13
    refine g_po0 (g_po (g_call (g_cons (g_v0 (g_cons (g_c (g_nil ?_)))))))
    refine ⟨sa, 4, rfl, u3, by omega, by omega, fun g J4 g0 g4 y4 u4 => ?_⟩
    obtain ⟨gn, rfl⟩ := Int.eq_ofNat_of_zero_le g0
    have hbl4 := u3.names hbl y4
    refine g_poI ?_
    refine g_slL hbl4 (fun bb J5 m5 a5 c5 => ?_)
    rw [cut_lo, ← List.map_take] at c5
    have u5 := u4.ex a5
    have y5 : Kp [sa] H' J5 := ((kp_ex a13).trans y4).trans (kp_ex a5)
    have hbs3 : (bm.take gn).length ≤ 3 := by rw [List.length_take]; omega
    have hbsn : (bm.take gn).Nodup := hbnd.sublist (List.take_sublist _ _)
    have hbsp : ∀ n ∈ bm.take gn, n ∈ nmsB := fun n h => hbnp n (List.mem_of_mem_take h)
    generalize bm.take gn = bs at c5 hbs3 hbsn hbsp
    have bbsa : bb ≠ sa := by
      obtain ⟨i9, _, z9⟩ := id u4
      exact (z9.ne0 m5).symm
    refine g_n5 (g_seq (g_asg (g_cb (g_cons (g_lcL (g_v5 ?_))))))
    refine lc_genL c5 (fun D i acc G => ∃ bx : Bx, bx.map (·.1) = bs.take i ∧ BxOk bx ∧ Al PrAt bx acc G ∧ Kp [sa] J5 G ∧ StA sa G) (by rw [List.length_map]; omega) (fun D G nD e hD => ⟨[], rfl, fun p h => (by cases h), rfl, kp_ex e, u5.ex e⟩) (fun D i acc G wi => by
      obtain ⟨bx, z1, z2, z3, z4, z5⟩ := wi
      exact c5.kp z4 (by simpa using bbsa)) (fun D i u acc G nD hi2 hl wi hD Y N hY hN => ?_) (fun D acc G nD wi hD => ?_)
    · obtain ⟨bx, z1, z2, z3, z4, z5⟩ := wi
      rw [List.getElem?_map] at hi2
      obtain ⟨bn, hbn, rfl⟩ := Option.map_eq_some_iff.mp hi2
      have nsaD : D ≠ sa := by
        obtain ⟨i9, _, z9⟩ := id u5
        exact (z9.ne0 nD).symm
      refine g_n12 (And.intro rfl (g_yes (g_iteT (g_tup (g_cons (g_v12 (g_cons (g_call (g_cons (g_v0 (g_cons (g_c (g_nil ?_)))))))))))))
      refine ⟨sa, 100, rfl, z5, by omega, by omega, fun v G2 v0 v1 k2 t2 => ?_⟩
      have hD2 : At G2 D (.lst acc) := hD.kp k2 (by simpa using nsaD)
      refine g_nil ?_
      refine g_tupN (by simp) (fun q G3 nq e3' hq3 => ?_)
      have hD3 := hD2.ex e3'
      have t5 : Tx G3 (upd G3 D (.lst (acc ++ [.ref q]))) := tx_mut hD3
      have kD : Kp [D] G3 (upd G3 D (.lst (acc ++ [.ref q]))) := kp_upd (by simp)
      refine hY _ G3 hD3 ⟨bx ++ [(bn, v)], by rw [List.map_append, z1, take_at hbn]; rfl, fun p hp => ?_, Al.snoc (z3.imp fun x y z => z.tx (((z5.txk k2).trans (Tx.ex e3')).trans t5)) ⟨q, rfl, t5 _ _ trivial hq3⟩, ?_, ?_⟩
      · rcases List.mem_append.mp hp with hp | hp
        · exact z2 p hp
        · rw [List.mem_singleton.mp hp]
          exact ⟨v0, v1⟩
      · intro x o hx nx
        have hx4 := ((z4.trans k2).trans (kp_ex e3')) x o hx nx
        exact kD x o hx4 (by simp only [List.mem_singleton]; exact fun z => by subst z; rw [nD] at hx; cases hx)
      · obtain ⟨i8, h8', z8⟩ := t2.ex e3'
        exact ⟨i8, h8', z8.kp kD (by simpa using nsaD.symm)⟩
    · obtain ⟨bx, z1, z2, z3, z4, z5⟩ := wi
      rw [List.length_map, List.take_length] at z1
      refine g_nil ?_
      refine g_tupF hD (fun Tb G2 nTb eTb hTb => ?_)
      refine g_n6 (g_seq (g_asg (g_lst (g_nil ?_))))
      refine g_lstN (by simp) (fun R G3 nR eR hR => ?_)
      have eb := eTb.trans eR
      refine g_n7 (g_seq (g_forL (g_sl (g_lst (g_cons (g_c (g_cons (g_c (g_cons (g_c (g_nil ?_)))))))))))
      refine g_lstN (by simp) (fun q3 G4 nq3 eq3 hq3 => ?_)
      have v4 := z5.ex (eb.trans eq3)
      refine g_po0 (g_po (g_call (g_cons (g_v0 (g_cons (g_c (g_nil ?_)))))))
      refine ⟨sa, 4, rfl, v4, by omega, by omega, fun kn G5 kn0 kn4 k5 v5 => ?_⟩
      have hq35 : At G5 q3 (.lst (sV ["go", "do", "on"])) := v4.names (ns := ["go", "do", "on"]) hq3 k5
      obtain ⟨kk, rfl⟩ := Int.eq_ofNat_of_zero_le kn0
      refine g_poI ?_
      refine g_slL hq35 (fun kl G6 nkl ekl hkl => ?_)
      rw [cut_lo, ← List.map_take] at hkl
      have hks3 : ((["go", "do", "on"] : List Nm).take kk).length ≤ 3 := by rw [List.length_take]; simp; omega
      have hksn : ((["go", "do", "on"] : List Nm).take kk).Nodup := List.Nodup.sublist (List.take_sublist _ _) (by decide +kernel)
      have hksp : ∀ n ∈ (["go", "do", "on"] : List Nm).take kk, n ∈ kinds := fun n h => (show ∀ n ∈ (["go", "do", "on"] : List Nm), n ∈ kinds by decide +kernel) n (List.mem_of_mem_take h)
      generalize (["go", "do", "on"] : List Nm).take kk = ks at hkl hks3 hksn hksp
      have v6 := v5.ex ekl
      have hTb6 : Fz acc Tb G6 := by
        refine (hTb.tx (Tx.ex (eR.trans eq3))).tx ?_
        exact (v4.txk k5).trans (Tx.ex ekl)
      have al6 : Al PrAt bx acc G6 := z3.imp fun x y z => z.tx ((Tx.ex (eb.trans eq3)).trans ((v4.txk k5).trans (Tx.ex ekl)))
      have Rsa : R ≠ sa := by
        obtain ⟨i9, _, z9⟩ := id (z5.ex eTb)
        exact (z9.ne0 nR).symm
      have bbG : At G bb (.lst (sV bs)) := c5.kp z4 (by simpa using bbsa)
      have bbR : bb ≠ R := (bbG.ex eTb).ne0 nR
      have hnlH : At H' nl (.lst (sV ns)) := hnl.kp w2 (by simp; exact ⟨nlsa, nlF⟩)
      have kHG : Kp [sa] H' G := y5.trans z4
      have nlG : At G nl (.lst (sV ns)) := hnlH.kp kHG (by simpa using nlsa)
      have nlR : nl ≠ R := (nlG.ex eTb).ne0 nR
      have kHG2 : Kp [sa] H' G2 := kHG.trans (kp_ex eTb)
      have nRH : H' R = none := kp_none kHG2 nR Rsa
      have kHG6 : Kp [sa] H' G6 := ((kHG2.trans (kp_ex (eR.trans eq3))).trans k5).trans (kp_ex ekl)
      have kGG6 : Kp [sa] G G6 := ((kp_ex (eb.trans eq3)).trans k5).trans (kp_ex ekl)
      have bb6 : At G6 bb (.lst (sV bs)) := bbG.kp kGG6 (by simpa using bbsa)
      have nl6 : At G6 nl (.lst (sV ns)) := nlG.kp kGG6 (by simpa using nlsa)
      have hR6 : At G6 R (.lst []) := ((hR.ex eq3).kp k5 (by simpa using Rsa)).ex ekl
      have klsa : kl ≠ sa := by
        obtain ⟨i9, _, z9⟩ := id v5
        exact (z9.ne0 nkl).symm
      have klR : kl ≠ R := ((((hR.ex eq3).kp k5 (by simpa using Rsa)) : At G5 R (.lst [])).ne0 nkl).symm
      have bsN : ∀ n ∈ bs, n ∈ nms := fun n h => nmsB_nms (hbsp n h)
      have bs100 : bs.length ≤ 100 := by omega
      have hns0 : ns ≠ [] := fun z => by rw [z] at hnsl; simp at hnsl; omega

      refine fo_L hkl (fun i σ' G' => (∃ x8 x9 x10 x11 x12 x13, σ' = [some (.ref sa), some (.int far), some (.ref nl), some (.ref F), some (.str n), some (.ref bb), some (.ref Tb), some (.ref R), x8, x9, x10, x11, x12, x13]) ∧ Kp [sa, R] G6 G' ∧ StA sa G' ∧ ∃ (rus : List V) (rl : List (Nm × List Row)), At G' R (.lst rus) ∧ Al RuAt rl rus G' ∧ rl.map (·.1) = ks.take i ∧ ∀ q ∈ rl, RuOk bs ns q)
        ⟨⟨_, _, _, _, _, _, rfl⟩, Kp.refl, v6, [], [], hR6, rfl, rfl, fun p h => by cases h⟩ (fun i σ' G' wi => hkl.kp wi.2.1 (by simp; exact ⟨klsa, klR⟩)) (fun i u σ' G' hi wi => ?_) (fun σ' G' wi => ?_)
      · obtain ⟨⟨x8, x9, x10, x11, x12, x13, rfl⟩, q2, q3, rus, rl, q4, q5, q6, q7⟩ := wi
        rw [List.getElem?_map] at hi
        obtain ⟨kd, hkd, rfl⟩ := Option.map_eq_some_iff.mp hi
        have bb7 : At G' bb (.lst (sV bs)) := bb6.kp q2 (by simp; exact ⟨bbsa, bbR⟩)
        have nl7 : At G' nl (.lst (sV ns)) := nl6.kp q2 (by simp; exact ⟨nlsa, nlR⟩)
        refine g_n8 (g_seq (g_asg (g_op (g_c (g_call (g_cons (g_v0 (g_cons (g_c (g_nil ?_))))))))))
        refine ⟨sa, 3, rfl, q3, by omega, by omega, fun f A1 f0 f1 ka1 sa1 => ?_⟩
        have bbA1 := q3.names bb7 ka1
        have nlA1 := q3.names nl7 ka1
        refine g_I0 (g_n9 (g_seq (g_asg (g_lst (g_cons (g_c (g_nil ?_)))))))
        refine g_lstN (by simp) (fun ra A2 nra ea2 hra => ?_)
        have sara : sa ≠ ra := by
          obtain ⟨i9, _, z9⟩ := id sa1
          exact z9.ne0 nra
        have ro2 : RoA sa ra 12 A2 := ⟨sa1.ex ea2, hra⟩
        have bbA2 := bbA1.ex ea2
        have nlA2 := nlA1.ex ea2
        refine g_n10 (g_seq (g_asg (g_lcR (g_cons (g_v9 (g_nil ?_))))))
        refine ⟨1 + f, rfl, by omega, by omega, lc_genR (ta := tNil) (lo := 0) (n := (1 + f).toNat) (fun D i acc G7 => ∃ rs : List Row, rs.length = i ∧ Al RwAt rs acc G7 ∧ Row.oks bs ns rs ∧ Row.deeps rs ≤ 3 ∧ RelN 3 i 12 (12 - Row.cnts rs) ∧ Kp [sa, ra] A2 G7 ∧ RoA sa ra (12 - Row.cnts rs) G7) (by omega)
          (fun D G7 nD e hD => ⟨[], rfl, rfl, by simp only [Row.oks], by simp only [Row.deeps]; omega, by simp only [Row.cnts, RelN]; omega, kp_ex e, by simpa [Row.cnts] using ro2.ex e⟩) (fun D i acc G7 nD hi hl wi hD Y N hY hN => ?_) (fun D acc G7 nD wi hD => ?_)⟩
        · obtain ⟨rs, w1, w2, w3, w4, w5, w6, w7⟩ := wi
          obtain ⟨i9, _, z9⟩ := id ro2.st
          have nsa : D ≠ sa := (z9.ne0 nD).symm
          have nra' : D ≠ ra := (ro2.rm.ne0 nD).symm
          have b' := ro2.names bbA2 w6
          have p' := ro2.names nlA2 w6
          refine g_n13 (And.intro rfl (g_yes (g_iteT (g_call (g_cons (g_v0 (g_cons (g_v5 (g_cons (g_v2 (g_cons (g_c (g_cons (g_v10 (g_nil ?_)))))))))))))))
          refine ⟨sa, bb, nl, ra, bs, ns, 3, _, rfl, rfl, by omega, by omega, w7, sara, b', p', bs100, bsN, by omega, hns0, fun r u H4 a1 a2 a3 a4 k4 r4 => ?_⟩
          have tt := w7.tx k4
          have hD4 : At H4 D (.lst acc) := hD.kp k4 (by simp; exact ⟨nsa, nra'⟩)
          have t5 : Tx H4 (upd H4 D (.lst (acc ++ [u]))) := tx_mut hD4
          have kD : Kp [D] H4 (upd H4 D (.lst (acc ++ [u]))) := kp_upd (by simp)
          refine hY u H4 hD4 ⟨rs ++ [r], by simp [w1], Al.snoc (w2.imp fun x y z => (RwAt.tx t5 x y (RwAt.tx tt x y z))) (RwAt.tx t5 _ _ a1), oks_snoc w3 a2, deeps_snoc w4 a3, ?_, ?_, ?_⟩
          · rw [cnts_snoc]
            refine ⟨_, w5, ?_⟩
            have e : (12 : Int) - ((Row.cnts rs + r.cnt : Nat) : Int) = 12 - (Row.cnts rs : Int) - (r.cnt : Int) := by omega
            rw [e]
            exact a4
          · intro x o hx nx
            have hx4 := (w6.trans k4) x o hx nx
            exact kD x o hx4 (by simp only [List.mem_singleton]; exact fun z => by subst z; rw [nD] at hx; cases hx)
          · rw [cnts_snoc]
            have e : (12 : Int) - ((Row.cnts rs + r.cnt : Nat) : Int) = 12 - (Row.cnts rs : Int) - (r.cnt : Int) := by omega
            rw [e]
            exact ⟨by
              obtain ⟨j8, hj8, z8⟩ := r4.st
              exact ⟨j8, hj8, z8.kp kD (by simp; exact nsa.symm)⟩, r4.rm.kp kD (by simp; exact nra'.symm)⟩
        · obtain ⟨rs, w1, w2, w3, w4, w5, w6, w7⟩ := wi
          have hr0 := rel3 (by omega) w5
          have kA : Kp [sa] G' G7 := kp_drop (ka1.trans (kp_ex ea2)) w6 (kp_none ka1 nra sara.symm)
          have tA : Tx G' G7 := StA.txk q3 kA
          have hR7 : At G7 R (.lst rus) := q4.kp kA (by simpa using Rsa)
          refine g_n11 (g_drop (g_bm (g_v7 (g_tyL (by walk_at "hx") (g_cons (g_tup (g_cons (g_v8 (g_cons (g_cb (g_cons (g_v11 (g_nil ?_)))))))))))))
          refine g_tupL hD (fun T1 G8 nT1 e8 hT1 => ?_)
          refine g_nil ?_
          refine g_tupN (by simp) (fun T2 G9 nT2 e9 hT2 => ?_)
          have hR9 : At G9 R (.lst rus) := hR7.ex (e8.trans e9)
          have hrul : rus.length ≤ 100 := by
            have hz := congrArg List.length q6
            rw [List.length_map, List.length_take] at hz
            rw [q5.len]
            omega
          refine g_nil (g_app (by walk_at "hx") (by walk_at "sz") ?_)
          have t10 : Tx G9 (upd G9 R (.lst (rus ++ [.ref T2]))) := tx_mut hR9
          have kR : Kp [R] G9 (upd G9 R (.lst (rus ++ [.ref T2]))) := kp_upd (by simp)
          have hru : RuAt (kd, rs) (.ref T2) (upd G9 R (.lst (rus ++ [.ref T2]))) := ⟨T2, .ref T1, rfl, t10 _ _ trivial hT2, T1, acc, rfl, t10 _ _ trivial (hT1.ex e9), w2.imp fun x y z => RwAt.tx ((Tx.ex (e8.trans e9)).trans t10) x y z⟩
          obtain ⟨i8, h8', z8⟩ := w7.st.ex (e8.trans e9)
          refine ⟨⟨_, _, _, _, _, _, rfl⟩, ((q2.trans (kA.mono (by simp))).trans (kp_ex (e8.trans e9))).trans (kR.mono (by simp)), ⟨i8, h8', z8.kp kR (by simpa using Rsa.symm)⟩, rus ++ [.ref T2], rl ++ [(kd, rs)], at_new, Al.snoc (q5.imp fun _ _ z => z.tx (tA.trans ((Tx.ex (e8.trans e9)).trans t10))) hru, by rw [List.map_append, q6, take_at hkd]; rfl, fun q hq' => ?_⟩
          rcases List.mem_append.mp hq' with hq' | hq'
          · exact q7 q hq'
          · rw [List.mem_singleton.mp hq']
            exact ⟨hksp kd (List.mem_of_getElem? hkd), w3, w4, (show Row.cnts rs ≤ 12 by omega), (show rs.length ≤ 3 by omega)⟩
      · obtain ⟨⟨x8, x9, x10, x11, x12, x13, rfl⟩, q2, q3, rus, rl, q4, q5, q6, q7⟩ := wi
        rw [List.length_map, List.take_length] at q6
        have t67 : Tx G6 G' := kp2_tx v6 hR6 q2
        have kAll : Kp [sa] H' G' := kp_drop kHG6 q2 nRH
        have hF7 : At G' F (.lst us) := w4.kp kAll (by simpa using Fsa)
        have tAll : Tx H' G' := StA.txk w3 kAll
        refine g_drop (g_bm (g_v3 (g_tyL (by walk_at "hx") (g_cons (g_tup (g_cons (g_v4 (g_cons (g_v6 (g_cons (g_cb (g_cons (g_v7 (g_nil ?_))))))))))))))
        refine g_tupL q4 (fun T1 G8 nT1 e8 hT1 => ?_)
        refine g_nil ?_
        refine g_tupN (by simp) (fun T2 G9 nT2 e9 hT2 => ?_)
        have hF9 : At G9 F (.lst us) := hF7.ex (e8.trans e9)
        have husl : us.length ≤ 100 := by
          have hz := congrArg List.length w6
          rw [List.length_map, List.length_take] at hz
          rw [w5.len]
          omega
        refine g_nil (g_app (by walk_at "hx") (by walk_at "sz") ?_)
        have t10 : Tx G9 (upd G9 F (.lst (us ++ [.ref T2]))) := tx_mut hF9
        have kF : Kp [F] G9 (upd G9 F (.lst (us ++ [.ref T2]))) := kp_upd (by simp)
        have t79 := (Tx.ex (e8.trans e9)).trans t10
        have hpl : PlAt ⟨n, bx, rl⟩ (.ref T2) (upd G9 F (.lst (us ++ [.ref T2]))) :=
          ⟨T2, .ref Tb, .ref T1, rfl, t10 _ _ trivial hT2, ⟨Tb, acc, rfl, hTb6.tx (t67.trans t79), al6.imp fun _ _ z => z.tx (t67.trans t79)⟩, ⟨T1, rus, rfl, t10 _ _ trivial (hT1.ex e9), q5.imp fun _ _ z => z.tx t79⟩⟩
        obtain ⟨i8, h8', z8⟩ := q3.ex (e8.trans e9)
        refine ⟨⟨_, _, _, _, _, _, _, _, _, _, rfl⟩, ((w2.trans (kAll.mono (by simp))).trans (kp_ex (e8.trans e9))).trans (kF.mono (by simp)), ⟨i8, h8', z8.kp kF (by simpa using Fsa.symm)⟩, us ++ [.ref T2], ms ++ [⟨n, bx, rl⟩], at_new, Al.snoc (w5.imp fun _ _ z => z.tx (tAll.trans t79)) hpl, by rw [List.map_append, w6, take_at hn]; rfl, fun q hq' => ?_⟩
        rcases List.mem_append.mp hq' with hq' | hq'
        · exact w7 q hq'
        · rw [List.mem_singleton.mp hq']
          have bxl : bx.length ≤ 3 := by
            have := congrArg List.length z1
            rw [List.length_map] at this
            omega
          have rll : rl.length ≤ 3 := by
            have := congrArg List.length q6
            rw [List.length_map] at this
            omega
          exact ⟨hnsp n (List.mem_of_getElem? hn), fun q hq => ⟨by rw [← z1] at hbsp; exact hbsp q.1 (List.mem_map.mpr ⟨q, hq, rfl⟩), z2 q hq⟩, by rw [show (Pl.boxes ⟨n, bx, rl⟩).map (·.1) = bs from z1]; exact hbsn, bxl, fun q hq => by rw [show (Pl.boxes ⟨n, bx, rl⟩).map (·.1) = bs from z1]; exact q7 q hq, by rw [show (Pl.rules ⟨n, bx, rl⟩).map (·.1) = ks from q6]; exact hksn, rll⟩
  · obtain ⟨⟨x4, x5, x6, x7, x8, x9, x10, x11, x12, x13, rfl⟩, w2, w3, us, ms, w4, w5, w6, w7⟩ := w1
    rw [List.length_map, List.take_length] at w6
    refine g_ret (g_cb (g_cons (g_v3 (g_nil ?_))))
    refine g_tupL w4 (fun Tm Hz nz ez hz => ?_)
    have hml : ms.length = ns.length := by rw [← w6, List.length_map]
    have e : namesOf ms = ns := w6
    exact hq ms _ Hz ⟨Tm, us, rfl, hz, w5.imp fun _ _ z => z.tx (Tx.ex ez)⟩ ⟨by omega, by omega, by rw [e]; exact hnsn, by rw [e]; exact w7⟩ ((kp_drop k09 w2 nF).trans (kp_ex ez)) (w3.ex ez)
end
end PM
/-! part F35 -/
namespace PM
open PySem PySem.Spec PyProof.Rows L2 PMH
open Evl (Ex)

local macro_rules | `(tactic| walk_at "ex") => `(tactic| first
  | with_reducible assumption
  | with_reducible exact Evl.Ex.refl _
  | (refine Evl.Ex.trans ?_ (by with_reducible assumption); walk_at "ex"))
local macro_rules | `(tactic| walk_at "hx") => `(tactic| first
  | with_reducible assumption
  | (refine At.ex (by with_reducible assumption) ?_; walk_at "ex")
  | (refine Fz.tx (by with_reducible assumption) ?_; walk_at "tx")
  | (refine TrAt.ex (by with_reducible assumption) ?_; walk_at "ex")
  | (refine MlAt.tx ?_ (by with_reducible assumption); walk_at "tx")
  | (refine PlAt.tx ?_ (by with_reducible assumption); walk_at "tx")
  | (refine LtAt.tx ?_ (by with_reducible assumption); walk_at "tx")
  | (refine GvAt.tx ?_ (by with_reducible assumption); walk_at "tx")
  | (refine WsAt.tx ?_ (by with_reducible assumption); walk_at "tx")
  | (refine RwAt.tx ?_ _ _ (by with_reducible assumption); walk_at "tx")
  | (refine RwsAt.tx ?_ _ _ (by with_reducible assumption); walk_at "tx")
  | (refine RuAt.tx ?_ (by with_reducible assumption); walk_at "tx")
  | (refine PrAt.tx ?_ (by with_reducible assumption); walk_at "tx"))
local macro_rules | `(tactic| walk_at "num") => `(tactic| first
  | with_reducible assumption
  | decide
  | exact Or.inl ⟨by omega, by omega⟩
  | exact Or.inr ⟨by omega, by omega⟩
  | (refine ⟨?_, ?_⟩ <;> omega)
  | (show (0 : Int) < _; omega))
local macro_rules | `(tactic| walk_at "tx") => `(tactic| first
  | with_reducible assumption
  | (refine Tx.ex ?_; walk_at "ex"))
local macro_rules | `(tactic| walk_at "sz") => `(tactic| first
  | with_reducible assumption
  | omega
  | (refine Evl.sz_of ?_; omega)
  | (refine Evl.sz_lt ?_; omega))
local macro_rules | `(tactic| walk_at "fl") => `(tactic| first
  | rfl
  | decide +kernel)

open LamX (TabB Tabs TabS ExtN CodeO)
section
variable {R : L2.St → Hp → Prop} {v : V} {H : Hp} {σ : L2.St} {Q : VK} {o0 o1 o2 o3 o4 o5 o6 o7 o8 o9 o10 o11 o12 o13 o14 o15 o16 : Option V}
theorem g_n16 (h : R (o0 :: o1 :: o2 :: o3 :: o4 :: o5 :: o6 :: o7 :: o8 :: o9 :: o10 :: o11 :: o12 :: o13 :: o14 :: o15 :: some v :: σ) H) : gName 16 v (o0 :: o1 :: o2 :: o3 :: o4 :: o5 :: o6 :: o7 :: o8 :: o9 :: o10 :: o11 :: o12 :: o13 :: o14 :: o15 :: o16 :: σ) H R := h
theorem g_v16 (h : Q v H) : tVar 16 (o0 :: o1 :: o2 :: o3 :: o4 :: o5 :: o6 :: o7 :: o8 :: o9 :: o10 :: o11 :: o12 :: o13 :: o14 :: o15 :: some v :: σ) H Q := ⟨v, rfl, h⟩
end
/-! ### data told plainly -/
theorem ints_lay : ∀ ns : List Nat, PyData.canLayAll0 (ns.map fun (n : Nat) => PyData.int (n : Int)) = true ∧ PyData.depthAll (ns.map fun (n : Nat) => PyData.int (n : Int)) = 0 ∧ PyData.eqvAll (ns.map fun (n : Nat) => PyData.int (n : Int)) (ns.map fun (n : Nat) => PyData.int (n : Int)) = true
  | [] => ⟨by simp [PyData.canLayAll0], by simp [PyData.depthAll], by simp [PyData.eqvAll]⟩
  | n :: ns => by
    have a := ints_lay ns
    exact ⟨by simp [PyData.canLayAll0, PyData.canLay0, a.1], by simp [PyData.depthAll, PyData.depth, a.2.1], by simp [PyData.eqvAll, PyData.eqv, a.2.2]⟩
theorem ints_shaped (ns : List Nat) : SeqAt.shaped (.list (ns.map fun (n : Nat) => PyData.int (n : Int))) = true := by
  have a := ints_lay ns
  have d2 : PyData.depth (.list (ns.map fun (n : Nat) => PyData.int (n : Int))) ≤ 64 := by simp only [PyData.depth, a.2.1]; omega
  simp only [SeqAt.shaped, PyData.canLay0, a.1, Bool.true_and]
  exact decide_eq_true d2
theorem ints_dp {K : PySem.W.Frag} {H : Hp} : ∀ ns : List Nat, DpAll K H (nV ns) (ns.map fun (n : Nat) => PyData.int (n : Int))
  | [] => .nil
  | n :: ns => .cons (.int _) (ints_dp ns)
theorem g_neNe {K : PySem.W.Frag} {H : Hp} {Q : VK} {a b : Addr} {ns : List Nat} (h : At H a (.lst (nV ns))) (h2 : At H b (.lst (nV ns))) (q : Q (.bl false) H) : rNeD K (.ref a) (.ref b) H Q := by
  refine ⟨_, _, .lst h.sqL (ints_dp ns), .lst h2.sqL (ints_dp ns), ints_shaped ns, ints_shaped ns, ?_⟩
  simpa [PyData.eqv, (ints_lay ns).2.2] using q
theorem g_eqNe {K : PySem.W.Frag} {H : Hp} {Q : VK} {a b : Addr} {ns : List Nat} (h : At H a (.lst (nV ns))) (h2 : At H b (.lst (nV ns))) (q : Q (.bl true) H) : rEqD K (.ref a) (.ref b) H Q := by
  refine ⟨_, _, .lst h.sqL (ints_dp ns), .lst h2.sqL (ints_dp ns), ints_shaped ns, ints_shaped ns, ?_⟩
  simpa [PyData.eqv, (ints_lay ns).2.2] using q
def encG (g : Gv) : PyData := .tuple [.int g.time, .str g.place, .str g.kind, .int g.load]
theorem gv_dp {K : PySem.W.Frag} {H : Hp} : ∀ {gs : List Gv} {us : List V}, Al GvAt gs us H → DpAll K H us (gs.map encG)
  | [], _, h => by rw [show _ = [] from h]; exact .nil
  | g :: gs, _, ⟨u, us, e, ⟨a, e2, h⟩, k⟩ => by
    subst e e2
    exact .cons (.tup h.sqT (.cons (.int _) (.cons (.str _) (.cons (.str _) (.cons (.int _) .nil))))) (gv_dp k)
theorem gv_lay : ∀ {gs : List Gv}, (∀ g ∈ gs, g.place ∈ nms ∧ g.kind ∈ kinds) → PyData.canLayAll0 (gs.map encG) = true ∧ PyData.depthAll (gs.map encG) ≤ 1 ∧ PyData.eqvAll (gs.map encG) (gs.map encG) = true
  | [], _ => ⟨by simp [PyData.canLayAll0], by simp [PyData.depthAll], by simp [PyData.eqvAll]⟩
  | g :: gs, h => by
    have a := gv_lay fun x m => h x (List.mem_cons_of_mem _ m)
    have b : ∀ z ∈ nms, PyData.canLay0 (.str z) = true := by decide +kernel
    have h1 := h g List.mem_cons_self
    have c1 := b _ h1.1
    have c2 := kinds_ok _ h1.2
    have i1 : PyData.canLay0 (.int g.time) = true := by simp [PyData.canLay0]
    have i2 : PyData.canLay0 (.int g.load) = true := by simp [PyData.canLay0]
    refine ⟨?_, ?_, ?_⟩
    · simp only [List.map_cons, PyData.canLayAll0, encG, PyData.canLay0, a.1, Bool.and_true]
      simp [PyData.canLay0] at c1 c2
      simp [c1, c2]
    · have d : (encG g).depth ≤ 1 := by simp [encG, PyData.depth, PyData.depthAll]
      simp only [List.map_cons, PyData.depthAll]
      omega
    · simp [PyData.eqvAll, PyData.eqv, encG, a.2.2]
theorem gv_shaped {gs : List Gv} (h : ∀ g ∈ gs, g.place ∈ nms ∧ g.kind ∈ kinds) : SeqAt.shaped (.list (gs.map encG)) = true := by
  have a := gv_lay h
  have d2 : PyData.depth (.list (gs.map encG)) ≤ 64 := by simp only [PyData.depth]; omega
  simp only [SeqAt.shaped, PyData.canLay0, a.1, Bool.true_and]
  exact decide_eq_true d2
theorem g_neGs {K : PySem.W.Frag} {H : Hp} {Q : VK} {a b : Addr} {gs : List Gv} {us : List V} (h : At H a (.lst us)) (h2 : At H b (.lst us)) (al : Al GvAt gs us H) (ok : ∀ g ∈ gs, g.place ∈ nms ∧ g.kind ∈ kinds) (q : Q (.bl false) H) : rNeD K (.ref a) (.ref b) H Q := by
  refine ⟨_, _, .lst h.sqL (gv_dp al), .lst h2.sqL (gv_dp al), gv_shaped ok, gv_shaped ok, ?_⟩
  simpa [PyData.eqv, (gv_lay ok).2.2] using q
theorem g_neB1 {K : PySem.W.Frag} {H : Hp} {Q : VK} {a b : Addr} {d : Bool} (h : At H a (.lst [.bl d])) (h2 : At H b (.lst [.bl d])) (q : Q (.bl false) H) : rNeD K (.ref a) (.ref b) H Q := by
  have s : SeqAt.shaped (.list [PyData.bool d]) = true := by cases d <;> decide +kernel
  refine ⟨_, _, .lst h.sqL (.cons (.bl d) .nil), .lst h2.sqL (.cons (.bl d) .nil), s, s, ?_⟩
  simpa [PyData.eqv, PyData.eqvAll] using q
/-! ### what is left is some of what was given -/
theorem passOf_sub {sh : List Nat → Option Bool} : ∀ {ns left l : List Nat}, passOf sh ns left = some l → l.Sublist left
  | [], left, l, h => by
    simp only [passOf, Option.some.injEq] at h
    subst h
    exact List.Sublist.refl _
  | n :: ns, left, l, h => by
    unfold passOf at h
    split at h
    · cases h
    · exact (passOf_sub h).trans List.filter_sublist
    · exact passOf_sub h
theorem cutRun_sub {sh : List Nat → Option Bool} : ∀ {k : Nat} {left l : List Nat}, cutRun sh k left = some l → l.Sublist left
  | 0, left, l, h => by cases h
  | k + 1, left, l, h => by
    unfold cutRun at h
    split at h
    · cases h
    · rename_i l1 h1
      split at h
      · exact (cutRun_sub h).trans (passOf_sub h1)
      · cases h
        exact passOf_sub h1
theorem gv_refs {gs : List Gv} {us : List V} {H : Hp} (h : Al GvAt gs us H) (i : Int) : us ≠ [.int i] := by
  intro z
  cases gs with
  | nil =>
    rw [show us = [] from h] at z
    cases z
  | cons g gs =>
    obtain ⟨u, vs, e, ⟨a, e2, _⟩, _⟩ := h
    rw [z] at e
    rw [e2] at e
    cases e
theorem g_seqJ {s1 s2 : TS} {nx bk ct : L2.St → Hp → Prop} {rt : VK} {σ : L2.St} {H : Hp} (J : L2.St → Hp → Prop) (after : ∀ σ H, J σ H → s2 ⟨nx, rt, bk, ct⟩ σ H) (h : (∀ σ H, J σ H → s2 ⟨nx, rt, bk, ct⟩ σ H) → s1 ⟨s2 ⟨nx, rt, bk, ct⟩, rt, bk, ct⟩ σ H) : tSeq s1 s2 ⟨nx, rt, bk, ct⟩ σ H := h after
theorem g_notN {z : V} {H : Hp} {Q : VK} (h : Q (.bl (!decide (z = .non))) H) : rNotN z .non H Q := ⟨rfl, h⟩
/-! ### tables of code objects stay apart -/
def lamQ : Str := (envOfC "_law_by" (defScope s_law_by) 0 0 .none).qual ++ "<lambda>"
def lamT (K : PySem.W.Frag) : List (Addr × Str) := [((He.cT K ("_law_by", none)).2, lamQ)]
theorem en_tx {H H' : Hp} (e : ExtN H H') : Tx H H' := fun a u f h => e a u h fun ps z => by
  subst z
  exact f
theorem en_ex {H H' : Hp} (e : Ex H H') : ExtN H H' := ExtN.of e
theorem en_sqL {K : PySem.W.Frag} {H H' : Hp} {a : Addr} {xs : List V} (h : SqL K H a xs) (e : ExtN H H') : SqL K H' a xs := h.elim (fun h => .inl (h.elim (fun h => .inl (e _ _ h (fun ps z => by cases z))) fun ⟨o, h⟩ => .inr ⟨o, e _ _ h (fun ps z => by cases z)⟩)) fun h => .inr h
theorem Asked.en {K : PySem.W.Frag} {mil g : Addr} {m : List Pl} {gs : List Gv} {us : List V} {ws : Nm × Tr} {wv : V} {H H' : Hp} (h : Asked K mil g m gs us ws wv H) (e : ExtN H H') : Asked K mil g m gs us ws wv H' := by
  obtain ⟨⟨dx, tree, h1, h2⟩, hk, ⟨sq, al, ok, few⟩, hw, hwo⟩ := h
  have t := en_tx e
  exact ⟨⟨dx, tree, e _ _ h1 (fun ps z => by cases z), h2.tx t⟩, hk, ⟨sq.imp (fun z => e _ _ z (fun ps z => by cases z)) (fun z => e _ _ z (fun ps z => by cases z)), al.imp fun _ _ z => z.tx t, ok, few⟩, hw.tx t, hwo⟩
theorem mk_fnC {P : Program} {w : World} {K : PySem.W.Frag} {mg : Str → Option Value} {base : Heap} {x nm qual : Str} {st : Stmt} {N ps : List Str} {k : Nat} {sp : Sp} {p : Str × Option Str} {fd : FuncData} (F : FunD K nm qual (defArgs st) (defBody st) (defScope st) [] [] (He.fAd K p) fd) (hm : mg x = some (.ref (He.fAd K p))) (sc : FnScope N ps (defScope st))
    (len : Counts sp ps) (bind : Plain nm qual st ps)
    (body : ∀ (A : Around) (outer : List Env) (s : Shared) (H : Hp) (vs : List V) (Q : VK) (E : XK), Room k (A.deeper (envOfC qual (defScope st) s.heap.objs.size (He.fAd K p) (.ref (He.cT K p).1))) → sp vs H Q E →
      ∃ t, PSs (cxOf CX0 P w K mg base N qual (defScope st) (He.fAd K p) (.ref (He.cT K p).1) A outer s H E).nox (defBody st) t ∧ t { nx := fun _ H' => Q .non H', rt := Q } (start N vs) H) : Fn P w K mg base CX0 (k + 1) x ps sp := by
  obtain ⟨oc, od, dV, kV, doc, pm, an, cdv, ct, osl, rfl, lk, hcd, _, _⟩ := id F.ex
  obtain ⟨c, rfl⟩ := He.codeIn_ref hcd
  have e : He.codeOf K p = c := He.codeOf_eq lk rfl
  subst e
  exact ⟨_, _, fn_of lk hcd sc len (fun A outer s H vs Q E hr h => by
    obtain ⟨t, h1, h2⟩ := body A outer s H vs Q E hr h
    exact ⟨t, h1.nox, h2⟩), hm, F.kp, F.bindsN bind⟩
section
variable {P : Program} {w : World} {K : PySem.W.Frag} {mg : Str → Option Value} {base : Heap}
def sp_law_by (K : PySem.W.Frag) : Sp := fun vs H Q _ => ∃ (sc : Addr) (cs : List Int) (turn : Int), vs = [.ref sc, .int turn] ∧ SqL K H sc (cs.map V.int) ∧ cs.length ≤ 63 ∧ Tabs (lamT K) H ∧ ∀ H', ExtN H H' → Tabs (lamT K) H' → Q (.bl true) H'
abbrev N_law_by : List Str := ["_law_script", "_law_turn", "_law_state", "_law_places", "_law_given_here", "_law_own", "_law_every", "_law_truth", "_law_left", "_law_found", "_law_numbers", "_law_due", "_law_handed", "_law_mill", "_law_time", "_law_wish_here", "_law_place"]
theorem sc_law_by : FnScope N_law_by ["_law_script", "_law_turn"] (defScope s_law_by) := ⟨rfl, rfl, rfl, by decide +kernel, rfl, by decide +kernel, by decide +kernel⟩
theorem ok_law_by (T : TX w K mg) (TB : TabB base mg (He.cT K ("_law_by", none)).1 (He.cT K ("_law_by", none)).2) : Fn P w K mg base CX0 32 "_law_by" ["_law_script", "_law_turn"] (sp_law_by K) := by
  have f_law_digits := ok_law_digits (P := P) (base := base) T
  have f_law_mill_tree := ok_law_mill_tree (P := P) (base := base) T
  have f_law_other_mill := ok_law_other_mill (P := P) (base := base) T
  have f_law_given := ok_law_given (P := P) (base := base) T
  have f_law_next := ok_law_next (P := P) (base := base) T
  have f_law_wish := ok_law_wish (P := P) (base := base) T
  have f_law_with := ok_law_with (P := P) (base := base) T
  have f_law_shown := ok_law_shown (P := P) (base := base) T
  have f_law_cut := ok_law_cut (P := P) (base := base) T
  have f_Mill_init := ok_Mill_init (P := P) (base := base) T
  have f_shows := ok_shows (P := P) (base := base) T
  have f_cut_down := ok_cut_down (P := P) (base := base) T
  have f_law_needed := ok_law_needed (P := P) (base := base) T
  have f_cut_good := ok_cut_good (P := P) (base := base) T
  have f_law_class := ok_law_class (P := P) (base := base) T
  have f_cut_downX := ok_cut_downX (P := P) (base := base) T
  obtain ⟨fr, Fr⟩ := T.d_law_refused
  have hkeep := Fr.kp
  have hbinds := Fr.bindsN (ps := ["_law_work"]) (fun _ _ _ _ _ _ us hl => match us, hl with | [_], _ => rfl)
  obtain ⟨oc, od, dV, kV, doc, pm, an, cdvr, ct, osl, rfl, hlk, hcg, _, _⟩ := id Fr.ex
  obtain ⟨fd, F⟩ := T.d_law_by
  refine mk_fnC (k := 31) F T.g_law_by sc_law_by (fun vs H Q E h => by obtain ⟨_, _, _, rfl, _⟩ := h; rfl) (fun _ _ _ _ _ _ us hl => match us, hl with | [_, _], _ => rfl) (fun A outer s H vs Q E hr h => ?_)
  obtain ⟨sc, cs, turn, rfl, hs, hc, hT, hq⟩ := h
  have hu := hu_of hr
  refine ⟨(tSeq (tAsg (tCall (sp_law_digits K) [] E0 (tCons (tVar 0) (tCons (tC (.int 0)) tNil))) (gName 2)) (tSeq (tAsg (tCall (sp_law_mill_tree K) [] E0 (tCons (tVar 2) tNil)) (gName 3)) (tSeq (tIfS (tTest (tOp rEq (tVar 1) (tC (.int 1)))) (tAsg (tCall sp_law_other_mill [] E0 (tCons (tVar 3) tNil)) (gName 3)) tNext) (tSeq (tAsg (tCall (sp_law_given K) [] E0 (tCons (tVar 0) (tCons (tC (.int 1)) (tCons (tLc (iTup K (tVar 3)) (gName 16) tYes (tOp (rIxT K) (tVar 16) (tC (.int 0))) [16]) (tCons (tC (.int 8)) tNil))))) (gName 4)) (tSeq (tAsg (tCall (sp_law_digits K) [] E0 (tCons (tVar 0) (tCons (tC (.int 9)) tNil))) (gName 5)) (tSeq (tAsg (tOp rAddI (tOp (rIxL K) (tLst (tCons (tC (.int 5)) (tCons (tC (.int 20)) (tCons (tC (.int 40)) (tCons (tC (.int 10)) tNil))))) (tCall sp_law_next [] E0 (tCons (tVar 5) (tCons (tC (.int 4)) tNil)))) (tCall sp_law_next [] E0 (tCons (tVar 5) (tCons (tC (.int 5)) tNil)))) (gName 14)) (tSeq (tAsg (tCall sp_law_wish [] E0 (tCons (tVar 5) (tCons (tVar 3) (tCons (tVar 4) (tCons (tVar 14) tNil))))) (gName 15)) (tSeq (tAsg (tLstRg (tRg1 (tCB (Evl.rLenS K) (tCons (tVar 4) tNil)))) (gName 6)) (tSeq (tAsg (tCall sp_law_shown [] E0 (tCons (tVar 3) (tCons (tCall sp_law_with [] E0 (tCons (tVar 3) (tCons (tVar 4) (tCons (tVar 6) tNil)))) (tCons (tVar 14) (tCons (tVar 15) tNil))))) (gName 7)) (tSeq (tAsg (tCall sp_law_cut [] E0 (tCons (tVar 3) (tCons (tVar 4) (tCons (tVar 14) (tCons (tVar 15) tNil))))) (gName 8)) (tSeq (tIfS (tOr (tTest (tOp rIsN (tVar 7) (tC .non))) (tTest (tOp rIsN (tVar 8) (tC .non)))) (tRet (tC (.bl true))) tNext) (tSeq (tAsg (tMake (He.ga K "Mill") (sp_Mill_init K) [] E0 (tCons (tVar 3) tNil)) (gName 13)) (tSeq (tAsg (tCB (Evl.rListS K) (tCons (tVar 4) tNil)) (gName 12)) (tSeq (tIfS (tOr (tNot (tB (tCB (rIsi K) (tCons (tCall (sp_shows K) [] E0 (tCons (tVar 13) (tCons (tVar 12) (tCons (tVar 14) (tCons (tVar 15) tNil))))) (tCons (tC (.ty "bool")) tNil))))) (tTest (tOp rNe (tCall (sp_shows K) [] E0 (tCons (tVar 13) (tCons (tVar 12) (tCons (tVar 14) (tCons (tVar 15) tNil))))) (tVar 7)))) (tRet (tC (.bl false))) tNext) (tSeq (tIfS (tNot (tB (tVar 7))) (tRet (tOp rEq (LamX.tLam [((He.cT K ("_law_by", none)).2, lamQ)] (TRef K) (fun E => tCall (sp_cut_downX K) [] E (tCons (tVar 13) (tCons (tVar 12) (tCons (tVar 14) (tCons (tVar 15) tNil)))))) (tC (.str "row")))) tNext) (tSeq (tAsg (tCall (sp_cut_down K) [] E0 (tCons (tVar 13) (tCons (tVar 12) (tCons (tVar 14) (tCons (tVar 15) tNil))))) (gName 9)) (tSeq (tIfS (tOr (tNot (tB (tCB (rIsi K) (tCons (tVar 9) (tCons (tC (.ty "list")) tNil))))) (tOr (tTest (tOp (rNeD K) (tVar 9) (tVar 8))) (tTest (tOp (rNeD K) (tVar 12) (tVar 4))))) (tRet (tC (.bl false))) tNext) (tSeq (tFor (iTup K (tTup (tCons (tVar 8) (tCons (tVar 6) (tCons (tSl (rSlL K) (tVar 8) (tPart (tC (.int 1))) tNoPart) (tCons (tSl (rSlL K) (tVar 6) tNoPart (tPart (tC (.int 1)))) (tCons (tLst tNil) tNil))))))) (gName 10) (tSeq (tAsg (tCall sp_law_needed [] E0 (tCons (tVar 3) (tCons (tVar 4) (tCons (tVar 14) (tCons (tVar 15) (tCons (tVar 10) tNil)))))) (gName 11)) (tIfS (tAnd (tTest (tOp rNotN (tVar 11) (tC .non))) (tTest (tOp (rNeD K) (tLst (tCons (tCall (sp_cut_good K) [] E0 (tCons (tVar 13) (tCons (tVar 12) (tCons (tVar 14) (tCons (tVar 15) (tCons (tVar 10) tNil)))))) tNil)) (tLst (tCons (tVar 11) tNil))))) (tRet (tC (.bl false))) tNext))) (tSeq (tDrop (tBM K "list" rAppend (tVar 9) (tCons (tC (.int 99)) tNil))) (tRet (tOp (rEqD K) (tCall (sp_cut_down K) [] E0 (tCons (tVar 13) (tCons (tCB (rTupS K) (tCons (tVar 4) tNil)) (tCons (tVar 14) (tCons (tVar 15) tNil))))) (tVar 8)))))))))))))))))))))),
    (pss_cons (ps_set (i := 2) sc_law_by.nd rfl (Or.inl rfl) (f_law_digits.ex.elim fun _ q => q.elim fun _ q => pe_call q.1 (hr.mono (by omega)) (by rfl) q.2.1 q.2.2.1 q.2.2.2 .nil pass0 (pa_cons (pv 0) (pa_cons pe_int pa_nil))))
      (pss_cons (ps_set (i := 3) sc_law_by.nd rfl (Or.inl rfl) (f_law_mill_tree.ex.elim fun _ q => q.elim fun _ q => pe_call q.1 (hr.mono (by omega)) (by rfl) q.2.1 q.2.2.1 q.2.2.2 .nil pass0 (pa_cons (pv 2) pa_nil)))
      (pss_cons (ps_if (pt_cmpR op_eq (pv 1) pe_int (nomark _)) (pss_one (ps_set (i := 3) sc_law_by.nd rfl (Or.inl rfl) (f_law_other_mill.ex.elim fun _ q => q.elim fun _ q => pe_call q.1 (hr.mono (by omega)) (by rfl) q.2.1 q.2.2.1 q.2.2.2 .nil pass0 (pa_cons (pv 3) pa_nil)))) pss_nil)
      (pss_cons (ps_set (i := 4) sc_law_by.nd rfl (Or.inl rfl) (f_law_given.ex.elim fun _ q => q.elim fun _ q => pe_call q.1 (hr.mono (by omega)) (by rfl) q.2.1 q.2.2.1 q.2.2.2 .nil pass0 (pa_cons (pv 0) (pa_cons pe_int (pa_cons (pe_lc (own := [("_law_place", 16)]) (wi := (iTup K (tVar 3))) (g := (gName 16)) (tt := tYes) (te := (tOp (rIxT K) (tVar 16) (tC (.int 0)))) rfl sc_law_by.nd (pi_tup (pv 3)) (blkOk_by (N := N_law_by) (sc := defScope s_law_by) (by decide +kernel)) (fun _ _ _ _ _ => (pg_name (i := 16) sc_law_by.nd rfl (Or.inl rfl))) (fun _ _ _ _ _ => pts_nil) (fun _ _ _ _ _ => (pe_ix ix_tup (pv 16) pe_int (fun _ _ => rfl)))) (pa_cons pe_int pa_nil))))))
      (pss_cons (ps_set (i := 5) sc_law_by.nd rfl (Or.inl rfl) (f_law_digits.ex.elim fun _ q => q.elim fun _ q => pe_call q.1 (hr.mono (by omega)) (by rfl) q.2.1 q.2.2.1 q.2.2.2 .nil pass0 (pa_cons (pv 0) (pa_cons pe_int pa_nil))))
      (pss_cons (ps_set (i := 14) sc_law_by.nd rfl (Or.inr rfl) (pe_op op_add (pe_ix ix_list (pe_lst (pa_cons pe_int (pa_cons pe_int (pa_cons pe_int (pa_cons pe_int pa_nil))))) (f_law_next.ex.elim fun _ q => q.elim fun _ q => pe_call q.1 (hr.mono (by omega)) (by rfl) q.2.1 q.2.2.1 q.2.2.2 .nil pass0 (pa_cons (pv 5) (pa_cons pe_int pa_nil))) (fun _ _ => rfl)) (f_law_next.ex.elim fun _ q => q.elim fun _ q => pe_call q.1 (hr.mono (by omega)) (by rfl) q.2.1 q.2.2.1 q.2.2.2 .nil pass0 (pa_cons (pv 5) (pa_cons pe_int pa_nil)))))
      (pss_cons (ps_set (i := 15) sc_law_by.nd rfl (Or.inr rfl) (f_law_wish.ex.elim fun _ q => q.elim fun _ q => pe_call q.1 (hr.mono (by omega)) (by rfl) q.2.1 q.2.2.1 q.2.2.2 .nil pass0 (pa_cons (pv 5) (pa_cons (pv 3) (pa_cons (pv 4) (pa_cons (pv 14) pa_nil))))))
      (pss_cons (ps_set (i := 6) sc_law_by.nd rfl (Or.inl rfl) (pe_listRg rfl (by rfl) T.b_list (prg_1 (by rfl) T.b_range (pe_callB cl_len (by rfl) T.b_len bt_len (pa_cons (pv 4) pa_nil)))))
      (pss_cons (ps_set (i := 7) sc_law_by.nd rfl (Or.inl rfl) (f_law_shown.ex.elim fun _ q => q.elim fun _ q => pe_call q.1 (hr.mono (by omega)) (by rfl) q.2.1 q.2.2.1 q.2.2.2 .nil pass0 (pa_cons (pv 3) (pa_cons (f_law_with.ex.elim fun _ q => q.elim fun _ q => pe_call q.1 (hr.mono (by omega)) (by rfl) q.2.1 q.2.2.1 q.2.2.2 .nil pass0 (pa_cons (pv 3) (pa_cons (pv 4) (pa_cons (pv 6) pa_nil)))) (pa_cons (pv 14) (pa_cons (pv 15) pa_nil))))))
      (pss_cons (ps_set (i := 8) sc_law_by.nd rfl (Or.inl rfl) (f_law_cut.ex.elim fun _ q => q.elim fun _ q => pe_call q.1 (hr.mono (by omega)) (by rfl) q.2.1 q.2.2.1 q.2.2.2 .nil pass0 (pa_cons (pv 3) (pa_cons (pv 4) (pa_cons (pv 14) (pa_cons (pv 15) pa_nil))))))
      (pss_cons (ps_if (PW.pt (pw_or (pt_cmpR op_isN1 (pv 7) pe_non (nomark _)) (pw_or1 (pt_cmpR op_isN1 (pv 8) pe_non (nomark _))))) (pss_one (ps_ret pe_bl)) pss_nil)
      (pss_cons (ps_set (i := 13) sc_law_by.nd rfl (Or.inr rfl) (f_Mill_init.ex.elim fun _ q => q.elim fun _ q => pe_make q.2.1 q.1 (hr.mono (by omega)) (by rfl) q.2.2.1 q.2.2.2 .nil pass0 (pa_cons (pv 3) pa_nil)))
      (pss_cons (ps_set (i := 12) sc_law_by.nd rfl (Or.inr rfl) (pe_callTy cl_list (by rfl) T.b_list bt_list (pa_cons (pv 4) pa_nil)))
      (pss_cons (ps_if (PW.pt (pw_or (pt_not (pt_val (pe_callB call_isi (by rfl) T.b_isinstance bt_isinstance (pa_cons (f_shows.ex.elim fun _ q => q.elim fun _ q => pe_call q.1 (hr.mono (by omega)) (by rfl) q.2.1 q.2.2.1 q.2.2.2 .nil pass0 (pa_cons (pv 13) (pa_cons (pv 12) (pa_cons (pv 14) (pa_cons (pv 15) pa_nil))))) (pa_cons (pe_bltn (v := .ty "bool") (by rfl) T.b_bool bt_bool rfl) pa_nil))))) (pw_or1 (pt_cmpR op_ne (f_shows.ex.elim fun _ q => q.elim fun _ q => pe_call q.1 (hr.mono (by omega)) (by rfl) q.2.1 q.2.2.1 q.2.2.2 .nil pass0 (pa_cons (pv 13) (pa_cons (pv 12) (pa_cons (pv 14) (pa_cons (pv 15) pa_nil))))) (pv 7) (nomark _))))) (pss_one (ps_ret pe_bl)) pss_nil)
      (pss_cons (ps_if (pt_not (pt_val (pv 7))) (pss_one (ps_ret (pe_cmpR op_eq (LamX.pe_lamcall (T := [((He.cT K ("_law_by", none)).2, lamQ)]) (TT := TRef K) (t := fun E => tCall (sp_cut_downX K) [] E (tCons (tVar 13) (tCons (tVar 12) (tCons (tVar 14) (tCons (tVar 15) tNil))))) (by rfl) T.g_law_refused hkeep hlk hcg hbinds sc_law_refused rfl (.inl rfl) (refused_gives T f_law_class (hr.mono (by omega))) TB rfl (List.mem_singleton.mpr rfl) (fun p hp _ => by rw [List.mem_singleton.mp hp]; rfl) (k := 28) (hr.mono (by omega)) (LamX.lamS_by (sc := defScope s_law_by) (by decide +kernel)) rfl (fun _ _ _ _ _ => rfl) (fun A outer s H E f c' hr2 => f_cut_downX.ex.elim fun _ q => q.elim fun _ q => pe_call q.1 hr2 (by rfl) q.2.1 q.2.2.1 q.2.2.2 .nil (passes_call (takes_of rfl rfl rfl rfl) (fun _ _ _ _ h => h)) (pa_cons (pv 13) (pa_cons (pv 12) (pa_cons (pv 14) (pa_cons (pv 15) pa_nil)))))) pe_str (nomark _)))) pss_nil)
      (pss_cons (ps_set (i := 9) sc_law_by.nd rfl (Or.inl rfl) (f_cut_down.ex.elim fun _ q => q.elim fun _ q => pe_call q.1 (hr.mono (by omega)) (by rfl) q.2.1 q.2.2.1 q.2.2.2 .nil pass0 (pa_cons (pv 13) (pa_cons (pv 12) (pa_cons (pv 14) (pa_cons (pv 15) pa_nil))))))
      (pss_cons (ps_if (PW.pt (pw_or (pt_not (pt_val (pe_callB call_isi (by rfl) T.b_isinstance bt_isinstance (pa_cons (pv 9) (pa_cons (pe_bltn (v := .ty "list") (by rfl) T.b_list bt_list rfl) pa_nil))))) (pw_or (pt_cmpR (op_neD hr.units) (pv 9) (pv 8) (nomark _)) (pw_or1 (pt_cmpR (op_neD hr.units) (pv 12) (pv 4) (nomark _)))))) (pss_one (ps_ret pe_bl)) pss_nil)
      (pss_cons (ps_for PassesOwn.never rfl (pi_tup (pe_tup (pa_cons (pv 8) (pa_cons (pv 6) (pa_cons (pe_slice sl_list (pv 8) (po_some pe_int) po_none) (pa_cons (pe_slice sl_list (pv 6) po_none (po_some pe_int)) (pa_cons (pe_lst pa_nil) pa_nil))))))) (pg_name (i := 10) sc_law_by.nd rfl (Or.inl rfl)) (pss_cons (ps_set (i := 11) sc_law_by.nd rfl (Or.inl rfl) (f_law_needed.ex.elim fun _ q => q.elim fun _ q => pe_call q.1 (hr.mono (by omega)) (by rfl) q.2.1 q.2.2.1 q.2.2.2 .nil pass0 (pa_cons (pv 3) (pa_cons (pv 4) (pa_cons (pv 14) (pa_cons (pv 15) (pa_cons (pv 10) pa_nil)))))))
      (pss_one (ps_if (PW.pt (pw_and (pt_cmpR op_notN1 (pv 11) pe_non (nomark _)) (pw_and1 (pt_cmpR (op_neD hr.units) (pe_lst (pa_cons (f_cut_good.ex.elim fun _ q => q.elim fun _ q => pe_call q.1 (hr.mono (by omega)) (by rfl) q.2.1 q.2.2.1 q.2.2.2 .nil pass0 (pa_cons (pv 13) (pa_cons (pv 12) (pa_cons (pv 14) (pa_cons (pv 15) (pa_cons (pv 10) pa_nil)))))) pa_nil)) (pe_lst (pa_cons (pv 11) pa_nil)) (nomark _))))) (pss_one (ps_ret pe_bl)) pss_nil))))
      (pss_cons (ps_expr (pe_bm PySem.F.plainAttrs_list PySem.F.slot_list_append PySem.F.type_list_append mt_append (pv 9) (pa_cons pe_int pa_nil)))
      (pss_one (ps_ret (pe_cmpR (op_eqD hr.units) (f_cut_down.ex.elim fun _ q => q.elim fun _ q => pe_call q.1 (hr.mono (by omega)) (by rfl) q.2.1 q.2.2.1 q.2.2.2 .nil pass0 (pa_cons (pv 13) (pa_cons (pe_callTy cl_tuple (by rfl) T.b_tuple bt_tuple (pa_cons (pv 4) pa_nil)) (pa_cons (pv 14) (pa_cons (pv 15) pa_nil))))) (pv 8) (nomark _))))))))))))))))))))))), ?_⟩
  refine g_start (σ' := [some _, some _, none, none, none, none, none, none, none, none, none, none, none, none, none, none, none]) rfl ?_
  refine g_seq (g_asg (g_call (g_cons (g_v0 (g_cons (g_c (g_nil ?_)))))))
  refine ⟨sc, cs, 0, rfl, hs, by omega, fun sa H1 nsa x1 s1 => ?_⟩
  refine g_n2 (g_seq (g_asg (g_call (g_cons (g_v2 (g_nil ?_))))))
  refine ⟨sa, rfl, s1, fun m0 plv0 H2 hm0 hk0 k2 s2 => ?_⟩
  have x2 : Ex H H2 := ex_kp x1 k2 (by simpa using nsa)
  refine g_n3 ?_
  refine g_seqJ (fun σ' H' => ∃ (m : List Pl) (plv : V), σ' = [some (.ref sc), some (.int turn), some (.ref sa), some plv, none, none, none, none, none, none, none, none, none, none, none, none, none] ∧ MlAt m plv H' ∧ MlOk m ∧ Ex H H') (fun σ' H3 w1 => ?_) (fun after => ?_)
  · obtain ⟨m, plv, rfl, hm, hk, x3⟩ := w1
    obtain ⟨pc, pvs, rfl, hpc, hpal⟩ := id hm
    have hm1 := hk.one
    have hm4 := hk.most
    have hne : namesOf m ≠ [] := fun z => by
      have z0 : m.length = 0 := by
        rw [← names_len, z]
        rfl
      omega
    refine g_seq (g_asg (g_call (g_cons (g_v0 (g_cons (g_c (g_cons (g_lcT (g_v3 ?_)))))))))
    refine lc_mapT (R := PlAt) (ds := m) (h := fun p => .str p.name) hpc hpal (by omega) (fun r u H1 e h => h.tx (Tx.ex e)) (fun r hm u H2 e2 hR Y N hY => ?_) (fun N1 H4 nN x4 hN => ?_)
    · obtain ⟨d, x, y, rfl, hd, _, _⟩ := hR
      refine g_n16 (And.intro rfl (g_yes (g_iteT (g_op (g_v16 (g_c (g_ixT (by walk_at "hx") (show atI _ _ = some _ from rfl) ?_)))))))
      exact hY _ (Evl.Ex.refl _)
    have hN : At H4 N1 (.lst (sV (namesOf m))) := by unfold namesOf; rw [sV_map]; exact hN
    have x04 := x3.trans x4
    refine g_cons (g_c (g_nil ?_))
    refine ⟨sc, N1, cs, namesOf m, rfl, sqL_ex hs x04, hc, hN, hne, by rw [names_len]; omega, fun g us gs H5 ng x5 hg hal hgn hgl => ?_⟩
    have x05 := x04.trans x5
    have hok : ∀ q ∈ gs, GvOk m q := fun q hq => ⟨(hgn q hq).t0, (hgn q hq).t1, (hgn q hq).place, (hgn q hq).kind, (hgn q hq).l0, (hgn q hq).l1⟩
    have hus := gv_refs hal
    have hm5 : MlAt m (.ref pc) H5 := hm.tx (Tx.ex (x4.trans x5))
    refine g_n4 (g_seq (g_asg (g_call (g_cons (g_v0 (g_cons (g_c (g_nil ?_))))))))
    refine ⟨sc, cs, 9, rfl, sqL_ex hs x05, by omega, fun ow H6 now x6 s6 => ?_⟩
    refine g_n5 (g_seq (g_asg (g_op (g_op (g_lst (g_cons (g_c (g_cons (g_c (g_cons (g_c (g_cons (g_c (g_nil ?_))))))))))))))
    refine g_lstN (by simp) (fun L H7 nL x7 hL => ?_)
    have s7 := s6.ex x7
    have y7 := x6.trans x7
    refine g_call (g_cons (g_v5 (g_cons (g_c (g_nil ?_)))))
    refine ⟨ow, 4, rfl, s7, by omega, by omega, fun f H8 f0 f4 k8 s8 => ?_⟩
    have y8 : Ex H5 H8 := ex_kp y7 k8 (by simpa using now)
    have hL8 : At H8 L (.lst [.int 5, .int 20, .int 40, .int 10]) := by
      obtain ⟨i9, _, z9⟩ := id s7
      exact kp_lst k8 z9 hL (by intro z; simp at z)

    obtain ⟨v, hv⟩ : ∃ v : Int, atI [V.int 5, V.int 20, V.int 40, V.int 10] f = some (.int v) := by
      have fc : f = 0 ∨ f = 1 ∨ f = 2 ∨ f = 3 := by omega
      rcases fc with rfl | rfl | rfl | rfl
      · exact ⟨5, rfl⟩
      · exact ⟨20, rfl⟩
      · exact ⟨40, rfl⟩
      · exact ⟨10, rfl⟩
    refine g_ixL hL8 hv ?_
    refine g_call (g_cons (g_v5 (g_cons (g_c (g_nil ?_)))))
    refine ⟨ow, 5, rfl, s8, by omega, by omega, fun f' H9 f0' f5' k9 s9 => ?_⟩
    have y9 : Ex H5 H9 := ex_kp y8 k9 (by simpa using now)
    refine g_I0 (g_n14 (g_seq (g_asg (g_call (g_cons (g_v5 (g_cons (g_v3 (g_cons (g_v4 (g_cons (g_v14 (g_nil ?_)))))))))))))
    generalize v + f' = time
    refine ⟨ow, g, m, .ref pc, gs, us, time, rfl, s9, hm5.tx (Tx.ex y9), hk, hg.ex y9, hal.imp fun _ _ z => z.tx (Tx.ex y9), hok, hgl, hus, fun wv ws H10 hw hwo k10 s10 => ?_⟩
    have y10 : Ex H5 H10 := ex_kp y9 k10 (by simpa using now)
    have A : LwA m (.ref pc) g gs us ws wv H10 := ⟨hm5.tx (Tx.ex y10), hk, hg.ex y10, hal.imp fun _ _ z => z.tx (Tx.ex y10), hok, hgl, hw, hwo⟩
    have x10 := x05.trans y10
    have hg10 := A.hg
    refine g_n15 (g_seq (g_asg (g_lrg (g_cb (g_cons (g_v4 (g_nil (g_lnL (by walk_at "hx") ?_))))))))
    refine g_lrgA (n := gs.length) (by rw [A.hal.len]) (by omega) (fun ev H11 nev x11 hev => ?_)
    have A11 := A.ex x11
    have hlt0 : ∀ n ∈ List.range gs.length, n < gs.length := fun n hn => List.mem_range.mp hn
    have hl0 : (List.range gs.length).length ≤ 8 := by rw [List.length_range]; exact hgl
    refine g_n6 (g_seq (g_asg (g_call (g_cons (g_v3 (g_cons (g_call (g_cons (g_v3 (g_cons (g_v4 (g_cons (g_v6 (g_nil ?_))))))))))))))
    refine ⟨m, .ref pc, g, ev, gs, us, List.range gs.length, rfl, A11.hm, A11.hk, A11.hg, A11.hal, A11.hok, A11.few, hev, hlt0, List.pairwise_lt_range, fun lm Hw xw frw Lw => ?_⟩
    have Aw := A11.ex xw
    refine g_cons (g_v14 (g_cons (g_v15 (g_nil ?_))))
    refine ⟨H11, m, .ref pc, lm, _, ws, wv, time, rfl, Aw.hm, Aw.hk, Lw, Aw.mo hlt0 hl0, Aw.hw, Aw.hwo, xw, frw, fun H12 x12 => ?_⟩
    have A12 := A11.ex x12
    refine g_n7 (g_seq (g_asg (g_call (g_cons (g_v3 (g_cons (g_v4 (g_cons (g_v14 (g_cons (g_v15 (g_nil ?_))))))))))))
    refine ⟨m, .ref pc, g, gs, us, ws, wv, time, rfl, A12, fun lv H13 x13 hcut => ?_⟩
    have A13 := A12.ex x13
    have x013 := x10.trans (x11.trans (x12.trans x13))
    have yes : ∀ H', Ex H13 H' → Q (.bl true) H' := fun H' e => hq H' (en_ex (x013.trans e)) (hT.ext (x013.trans e))
    have hev13 := hev.ex (x12.trans x13)
    have hg13 := A13.hg
    cases hsh : shownOf m ws time (startOf m (ltsOf m gs (List.range gs.length))) with
    | none =>
      refine g_n8 (g_seq (g_ifs (g_or (g_tst (g_op (g_v7 (g_c (g_isN (g_k (g_ifD1 (rfl) (g_iteT (g_ret (g_c ?_)))))))))))))
      exact yes _ (Evl.Ex.refl _)
    | some b =>
    have hsh' : shL m gs time ws (List.range gs.length) = some b := hsh
    have eo : optV (some b) = V.bl b := rfl
    rw [eo]
    cases hcl : cutL (shL m gs time ws) gs.length with
    | none =>
      rw [hcl] at hcut
      have hcut : lv = .non := hcut
      subst hcut
      refine g_n8 (g_seq (g_ifs (g_or (g_tst (g_op (g_v7 (g_c (g_isN (g_k (g_ifD0 (by simp) (g_tst (g_op (g_v8 (g_c (g_isN (g_k (g_ifD1 (rfl) (g_ret (g_c ?_)))))))))))))))))))
      exact yes _ (Evl.Ex.refl _)
    | some res =>
    rw [hcl] at hcut
    obtain ⟨la, rfl, nla, hla⟩ := hcut
    refine g_n8 (g_seq (g_ifs (g_or (g_tst (g_op (g_v7 (g_c (g_isN (g_k (g_ifD0 (by simp) (g_tst (g_op (g_v8 (g_c (g_isN (g_k (g_ifD0 (by simp) (g_next (g_seq (g_asg (g_make (g_cons (g_v3 (g_nil ?_))))))))))))))))))))))))
    intro x dx nx ndx hdx
    have exx : Ex H13 (upd (upd H13 dx (.own x)) x (.ins (He.ga K "Mill") dx [])) := by
      refine (ex_new ndx).trans (ex_new ?_)
      rw [upd_ne (Ne.symm hdx)]
      exact nx
    have hx : At (upd (upd H13 dx (.own x)) x (.ins (He.ga K "Mill") dx [])) x (.ins (He.ga K "Mill") dx []) := at_new
    generalize upd (upd H13 dx (.own x)) x (.ins (He.ga K "Mill") dx []) = H14 at exx hx
    refine ⟨x, dx, .ref pc, m, rfl, hx, A13.hm.tx (Tx.ex exx), hk, fun H15 k15 h15 => ⟨rfl, ?_⟩⟩
    have x15 : Ex H13 H15 := ex_kp exx k15 (by simpa using nx)
    have A15 := A13.ex x15
    have hg15 := A15.hg
    refine g_n13 (g_seq (g_asg (g_cb (g_cons (g_v4 (g_nil ?_))))))
    refine g_listL hg15 (fun hd H16 nhd x16 hhd => ?_)
    have A16 := A15.ex x16
    have asked : Asked K x hd m gs us ws wv H16 := ⟨⟨dx, .ref pc, h15.ex x16, A16.hm⟩, hk, ⟨.inl hhd, A16.hal, hok, hgl⟩, A16.hw, A16.hwo⟩
    refine g_n12 (g_seq (g_ifs (g_or (g_not (g_tB (g_cb (g_cons (g_call (g_cons (g_v13 (g_cons (g_v12 (g_cons (g_v14 (g_cons (g_v15 (g_nil ?_)))))))))))))))))
    refine ⟨x, hd, m, gs, us, ws, wv, time, b, rfl, asked, hsh', fun H17 x17 => ?_⟩
    refine g_cons (g_c (g_nil (g_isBool (g_k (g_iteF (g_tst (g_op (g_call (g_cons (g_v13 (g_cons (g_v12 (g_cons (g_v14 (g_cons (g_v15 (g_nil ?_)))))))))))))))))
    refine ⟨x, hd, m, gs, us, ws, wv, time, b, rfl, asked.ex x17, hsh', fun H18 x18 => ?_⟩
    have x168 := x17.trans x18
    have x138 : Ex H13 H18 := x15.trans (x16.trans x168)
    have asked18 := asked.ex x168
    have A18 := A16.ex x168
    cases b with
    | false =>
      refine g_v7 (g_neB (g_k (g_ifN0 (rfl) (g_next (g_seq (g_ifs (g_not (g_tB (g_v7 (g_k (g_iteT (g_ret (g_op ?_)))))))))))))
      refine ⟨hT.ext (x013.trans x138), fun H19 eN T19 Q' => ?_⟩
      refine g_call (g_cons (g_v13 (g_cons (g_v12 (g_cons (g_v14 (g_cons (g_v15 (g_nil ?_)))))))))
      refine ⟨x, hd, m, gs, us, ws, wv, time, rfl, asked18.en eN, hsh', fun H20 x20 => ⟨rfl, rfl, fun H21 x21 => ?_⟩⟩
      refine g_c (g_eqS ?_)
      have e : decide (("row" : Nm) = "row") = true := decide_eq_true rfl
      rw [e]
      exact hq H21 ((en_ex (x013.trans x138)).trans (eN.trans (en_ex (x20.trans x21)))) (T19.ext (x20.trans x21))
    | true =>
      have hrun : cutRun (shL m gs time ws) 9 (List.range gs.length) = some res := by
        unfold cutL at hcl
        rw [hsh'] at hcl
        exact hcl
      have rsub := cutRun_sub hrun
      have rlt : ∀ n ∈ res, n < gs.length := fun n hn => hlt0 n (rsub.subset hn)
      have rpw : res.Pairwise (· < ·) := List.Pairwise.sublist rsub List.pairwise_lt_range
      have rl8 : res.length ≤ 8 := Nat.le_trans rsub.length_le hl0
      refine g_v7 (g_neB (g_k (g_ifN0 (rfl) (g_next (g_seq (g_ifs (g_not (g_tB (g_v7 (g_k (g_iteF (g_next (g_seq (g_asg (g_call (g_cons (g_v13 (g_cons (g_v12 (g_cons (g_v14 (g_cons (g_v15 (g_nil ?_))))))))))))))))))))))))
      refine ⟨x, hd, m, gs, us, ws, wv, time, res, rfl, asked18, hsh', hrun, fun p H19 np x19 hp => ?_⟩
      have hla18 := hla.ex x138
      have hla19 := hla18.ex x19
      have hhd19 := hhd.ex (x168.trans x19)
      refine g_n9 (g_seq (g_ifs (g_or (g_not (g_tB (g_cb (g_cons (g_v9 (g_cons (g_c (g_nil (g_isLst (by walk_at "hx") (g_k (g_iteF (g_or (g_tst (g_op (g_v9 (g_v8 ?_)))))))))))))))))))
      refine g_neNe hp hla19 ?_
      refine g_k (g_iteF (g_tst (g_op (g_v12 (g_v4 ?_)))))
      refine g_neGs hhd19 (A18.hg.ex x19) (A18.hal.imp fun _ _ z => z.tx (Tx.ex x19)) (fun q hq => ⟨?_, (hok q hq).kind⟩) ?_
      · obtain ⟨i, pl, hi, en⟩ := names_mem (hok q hq).place
        rw [← en]
        exact nmsP_nms (hk.pl pl (List.mem_of_getElem? hi)).name
      refine g_k (g_iteF (g_next (g_seq (g_forT (g_tup (g_cons (g_v8 (g_cons (g_v6 (g_cons (g_sl (g_v8 (g_po (g_c (g_poI (g_po0 ?_))))))))))))))))
      refine g_slL hla19 (fun q1 H20 nq1 x20 hq1 => ?_)
      rw [show (1 : Int) = ((1 : Nat) : Int) by rfl, cut_hi, ← List.map_drop] at hq1
      have hev20 := hev13.ex (x138.trans (x19.trans x20))
      refine g_cons (g_sl (g_v6 (g_po0 (g_po (g_c (g_poI ?_))))))
      refine g_slL hev20 (fun q2 H21 nq2 x21 hq2 => ?_)
      rw [show (1 : Int) = ((1 : Nat) : Int) by rfl, cut_lo, ← List.map_take] at hq2
      refine g_cons (g_lst (g_nil ?_))
      refine g_lstN (by simp) (fun q3 H22 nq3 x22 hq3 => ?_)
      refine g_nil ?_
      refine g_tupN (by simp) (fun tp H23 ntp x23 htp => ?_)
      have x1923 := x20.trans (x21.trans (x22.trans x23))
      have x1823 := x19.trans x1923

      refine fo_T htp (fun i σ' H' => (∃ x10 x11, σ' = [some (.ref sc), some (.int turn), some (.ref sa), some (.ref pc), some (.ref g), some (.ref ow), some (.ref ev), some (.bl true), some (.ref la), some (.ref p), x10, x11, some (.ref hd), some (.ref x), some (.int time), some wv, none]) ∧ Ex H23 H')
        ⟨⟨_, _, rfl⟩, Evl.Ex.refl _⟩ (fun i σ' H' w1 => htp.ex w1.2) (fun i u σ' H' hi w1 => ?_) (fun σ' H' w1 => ?_)
      · obtain ⟨⟨x10, x11, rfl⟩, e1⟩ := w1
        obtain ⟨na, ns, rfl, hna, nlt, npw, nl8⟩ : ∃ (na : Addr) (ns : List Nat), u = .ref na ∧ At H23 na (.lst (nV ns)) ∧ (∀ n ∈ ns, n < gs.length) ∧ ns.Pairwise (· < ·) ∧ ns.length ≤ 8 := by
          match i, hi with
          | 0, hi => cases hi; exact ⟨la, res, rfl, hla19.ex x1923, rlt, rpw, rl8⟩
          | 1, hi => cases hi; exact ⟨ev, List.range gs.length, rfl, hev13.ex (x138.trans x1823), hlt0, List.pairwise_lt_range, hl0⟩
          | 2, hi => cases hi; exact ⟨q1, res.drop 1, rfl, hq1.ex (x21.trans (x22.trans x23)), fun n hn => rlt n (List.mem_of_mem_drop hn), List.Pairwise.sublist (List.drop_sublist _ _) rpw, by rw [List.length_drop]; omega⟩
          | 3, hi => cases hi; exact ⟨q2, (List.range gs.length).take 1, rfl, hq2.ex (x22.trans x23), fun n hn => hlt0 n (List.mem_of_mem_take hn), List.Pairwise.sublist (List.take_sublist _ _) List.pairwise_lt_range, by rw [List.length_take]; omega⟩
          | 4, hi => cases hi; exact ⟨q3, [], rfl, hq3.ex x23, (fun n hn => by cases hn), List.Pairwise.nil, by simp⟩
          | i + 5, hi => simp at hi
        have A24 := (A18.ex x1823).ex e1
        have asked24 := (asked18.ex x1823).ex e1
        have hna24 := hna.ex e1
        refine g_n10 (g_seq (g_asg (g_call (g_cons (g_v3 (g_cons (g_v4 (g_cons (g_v14 (g_cons (g_v15 (g_cons (g_v10 (g_nil ?_))))))))))))))
        refine ⟨m, .ref pc, g, na, gs, us, ws, wv, time, ns, rfl, A24, hna24, nlt, npw, nl8, fun H25 x25 => ?_⟩
        cases hnd : needOf (shL m gs time ws) ns with
        | none =>
          refine g_n11 (g_ifs (g_and (g_tst (g_op (g_v11 (g_c (g_notN (g_k (g_ifN0 (rfl) (g_iteF (g_next ?_)))))))))))
          exact ⟨⟨_, _, rfl⟩, e1.trans x25⟩
        | some d =>
          have ed : optV (some d) = V.bl d := rfl
          rw [ed]
          refine g_n11 (g_ifs (g_and (g_tst (g_op (g_v11 (g_c (g_notN (g_k (g_ifN1 (by simp) (g_tst (g_op (g_lst (g_cons (g_call (g_cons (g_v13 (g_cons (g_v12 (g_cons (g_v14 (g_cons (g_v15 (g_cons (g_v10 (g_nil ?_)))))))))))))))))))))))))
          refine ⟨x, hd, na, m, gs, us, ws, wv, time, ns, d, rfl, asked24.ex x25, hna24.ex x25, nlt, nl8, npw, hnd, fun H26 x26 => ?_⟩
          refine g_nil ?_
          refine g_lstN (by simp) (fun r1 H27 nr1 x27 hr1 => ?_)
          refine g_lst (g_cons (g_v11 (g_nil ?_)))
          refine g_lstN (by simp) (fun r2 H28 nr2 x28 hr2 => ?_)

          refine g_neB1 (hr1.ex x28) hr2 ?_
          refine g_k (g_iteF (g_next ?_))
          exact ⟨⟨_, _, rfl⟩, e1.trans (x25.trans (x26.trans (x27.trans x28)))⟩
      · obtain ⟨⟨x10, x11, rfl⟩, e1⟩ := w1
        have x19' := x1923.trans e1
        have x18' := x1823.trans e1
        have hp' := hp.ex x19'
        have hrl : (nV res).length ≤ 100 := by rw [List.length_map]; omega
        refine g_seq (g_drop (g_bm (g_v9 (g_tyL (by walk_at "hx") (g_cons (g_c (g_nil (g_app (by walk_at "hx") (by walk_at "sz") ?_))))))))
        have xu : Ex H18 (upd H' p (.lst (nV res ++ [.int 99]))) := ex_upd x18' np
        generalize upd H' p (.lst (nV res ++ [.int 99])) = H29 at xu
        have A29 := A18.ex xu
        have hg29 := A29.hg
        have asked29 := asked18.ex xu
        refine g_ret (g_op (g_call (g_cons (g_v13 (g_cons (g_cb (g_cons (g_v4 (g_nil ?_)))))))))
        refine g_tupL hg29 (fun tg H30 ntg x30 htg => ?_)
        refine g_cons (g_v14 (g_cons (g_v15 (g_nil ?_))))
        have asked30 := asked29.ex x30
        refine ⟨x, tg, m, gs, us, ws, wv, time, res, rfl, ⟨asked30.mi, hk, ⟨.inr htg, asked30.hgs.al, hok, hgl⟩, asked30.hws, asked30.wok⟩, hsh', hrun, fun p2 H31 np2 x31 hp2 => ?_⟩
        refine g_v8 ?_
        refine g_eqNe hp2 (hla18.ex (xu.trans (x30.trans x31))) ?_
        exact yes _ (x138.trans (xu.trans (x30.trans x31)))
  ·
    by_cases ht : turn = 1
    · refine g_ifs (g_tst (g_op (g_v1 (g_c (g_eqI (g_k (g_ifD1 (ht) (g_asg (g_call (g_cons (g_v3 (g_nil ?_))))))))))))
      refine ⟨m0, plv0, rfl, hm0, hk0, fun m' v H3 e3 hm' hk' => ?_⟩
      exact g_n3 (after _ _ ⟨m', v, rfl, hm', hk', x2.trans e3⟩)
    ·
      refine g_ifs (g_tst (g_op (g_v1 (g_c (g_eqI (g_k (g_ifD0 (ht) ?_)))))))
      exact g_next (after _ _ ⟨m0, plv0, rfl, hm0, hk0, x2⟩)
end
end PM
/-! part F36 -/
namespace PM
open PySem PySem.Spec PyProof.Rows L2 PMH
open Evl (Ex)

local macro_rules | `(tactic| walk_at "ex") => `(tactic| first
  | with_reducible assumption
  | with_reducible exact Evl.Ex.refl _
  | (refine Evl.Ex.trans ?_ (by with_reducible assumption); walk_at "ex"))
local macro_rules | `(tactic| walk_at "hx") => `(tactic| first
  | with_reducible assumption
  | (refine At.ex (by with_reducible assumption) ?_; walk_at "ex")
  | (refine Fz.tx (by with_reducible assumption) ?_; walk_at "tx")
  | (refine TrAt.ex (by with_reducible assumption) ?_; walk_at "ex")
  | (refine MlAt.tx ?_ (by with_reducible assumption); walk_at "tx")
  | (refine PlAt.tx ?_ (by with_reducible assumption); walk_at "tx")
  | (refine LtAt.tx ?_ (by with_reducible assumption); walk_at "tx")
  | (refine GvAt.tx ?_ (by with_reducible assumption); walk_at "tx")
  | (refine WsAt.tx ?_ (by with_reducible assumption); walk_at "tx")
  | (refine RwAt.tx ?_ _ _ (by with_reducible assumption); walk_at "tx")
  | (refine RwsAt.tx ?_ _ _ (by with_reducible assumption); walk_at "tx")
  | (refine RuAt.tx ?_ (by with_reducible assumption); walk_at "tx")
  | (refine PrAt.tx ?_ (by with_reducible assumption); walk_at "tx"))
local macro_rules | `(tactic| walk_at "num") => `(tactic| first
  | with_reducible assumption
  | decide
  | exact Or.inl ⟨by omega, by omega⟩
  | exact Or.inr ⟨by omega, by omega⟩
  | (refine ⟨?_, ?_⟩ <;> omega)
  | (show (0 : Int) < _; omega))
local macro_rules | `(tactic| walk_at "tx") => `(tactic| first
  | with_reducible assumption
  | (refine Tx.ex ?_; walk_at "ex"))
local macro_rules | `(tactic| walk_at "sz") => `(tactic| first
  | with_reducible assumption
  | omega
  | (refine Evl.sz_of ?_; omega)
  | (refine Evl.sz_lt ?_; omega))
local macro_rules | `(tactic| walk_at "fl") => `(tactic| first
  | rfl
  | decide +kernel)

open LamX (TabB Tabs TabS ExtN CodeO)
section
variable {P : Program} {w : World} {K : PySem.W.Frag} {mg : Str → Option Value} {base : Heap}
def sp_law (K : PySem.W.Frag) : Sp := fun vs H Q _ => ∃ (sc : Addr) (cs : List Int), vs = [.ref sc] ∧ SqL K H sc (cs.map V.int) ∧ cs.length ≤ 63 ∧ Tabs (lamT K) H ∧ ∀ H', Q (.bl true) H'
abbrev N_law : List Str := ["_law_script", "_law_turn"]
theorem sc_law : FnScope N_law ["_law_script"] (defScope s_law) := ⟨rfl, rfl, rfl, by decide +kernel, rfl, by decide +kernel, by decide +kernel⟩
theorem ok_law (T : TX w K mg) (TB : TabB base mg (He.cT K ("_law_by", none)).1 (He.cT K ("_law_by", none)).2) {fd : FuncData} (F : FunD K "law" "law" (defArgs s_law) (defBody s_law) (defScope s_law) [] [] (He.fAd K ("law", none)) fd) : FnOk P w K mg base CX0 33 (He.fAd K ("law", none)) fd ["_law_script"] (sp_law K) := by
  have f_law_by := ok_law_by (P := P) (base := base) T TB
  refine F.ok sc_law (fun vs H Q E h => by obtain ⟨_, _, rfl, _⟩ := h; rfl) (fun cdv A outer s H vs Q E hr h => ?_)
  obtain ⟨sc, cs, rfl, hs, hc, hT, hq⟩ := h
  have hu := hu_of hr
  suffices z : ∃ t, PSs (cxOf CX0 P w K mg base N_law "law" (defScope s_law) (He.fAd K ("law", none)) cdv A outer s H E).nox (defBody s_law) t ∧ t { nx := fun _ H' => Q .non H', rt := Q } (start N_law [.ref sc]) H by
    obtain ⟨t, h1, h2⟩ := z
    exact ⟨t, h1.nox, h2⟩
  refine ⟨(tRet (tOp (rEqD K) (tLc (iTup K (tTup (tCons (tC (.int 0)) (tCons (tC (.int 1)) (tCons (tC (.int 2)) tNil))))) (gName 1) (tNot (tB (tCall (sp_law_by K) [] E0 (tCons (tVar 0) (tCons (tVar 1) tNil))))) (tVar 1) [1]) (tLst tNil))),
    (pss_one (ps_ret (pe_cmpR (op_eqD hr.units) (pe_lc (own := [("_law_turn", 1)]) (wi := (iTup K (tTup (tCons (tC (.int 0)) (tCons (tC (.int 1)) (tCons (tC (.int 2)) tNil)))))) (g := (gName 1)) (tt := (tNot (tB (tCall (sp_law_by K) [] E0 (tCons (tVar 0) (tCons (tVar 1) tNil)))))) (te := (tVar 1)) rfl sc_law.nd (pi_tup (pe_tup (pa_cons pe_int (pa_cons pe_int (pa_cons pe_int pa_nil))))) (blkOk_by (N := N_law) (sc := defScope s_law) (by decide +kernel)) (fun _ _ _ _ _ => (pg_name (i := 1) sc_law.nd rfl (Or.inl rfl))) (fun _ _ _ _ _ => (pts_one (pt_not (pt_val (f_law_by.ex.elim fun _ q => q.elim fun _ q => pe_call q.1 (hr.mono (by omega)) (by rfl) q.2.1 q.2.2.1 q.2.2.2 .nil pass0 (pa_cons (pv 0) (pa_cons (pv 1) pa_nil))))))) (fun _ _ _ _ _ => (pv 1))) (pe_lst pa_nil) (nomark _)))), ?_⟩
  refine g_start (σ' := [some _, none]) rfl ?_
  refine g_ret (g_op (g_lcT (g_tup (g_cons (g_c (g_cons (g_c (g_cons (g_c (g_nil ?_))))))))))
  refine g_tupN (by simp) (fun tp H1 n1 e1 htp => ?_)
  refine lc_genT htp.sqT (fun D i acc G => acc = [] ∧ ExtN H1 G ∧ Tabs (lamT K) G) (by simp) (fun D G nD e hD => ⟨rfl, en_ex e, hT.ext (e1.trans e)⟩) (fun D i acc G wi => At.sqT (wi.2.1 _ _ htp (fun ps z => by cases z))) (fun D i u acc G nD hi hli wi hD Y N hY hN => ?_) (fun D acc G nD wi hD => ?_)
  · obtain ⟨rfl, w2, w3⟩ := wi
    obtain ⟨t, rfl⟩ : ∃ t : Int, u = .int t := by
      match i, hi with
      | 0, hi => cases hi; exact ⟨0, rfl⟩
      | 1, hi => cases hi; exact ⟨1, rfl⟩
      | 2, hi => cases hi; exact ⟨2, rfl⟩
      | i + 3, hi => simp at hi
    refine g_n1 (And.intro rfl (g_not (g_tB (g_call (g_cons (g_v0 (g_cons (g_v1 (g_nil ?_)))))))))
    refine ⟨sc, cs, t, rfl, en_sqL hs ((en_ex e1).trans w2), hc, w3, fun H2 eN T2 => ?_⟩
    refine g_k (g_iteF ?_)
    exact hN H2 (eN _ _ hD (fun ps z => by cases z)) ⟨rfl, w2.trans eN, T2⟩
  · obtain ⟨rfl, w2, w3⟩ := wi
    refine g_lst (g_nil ?_)
    refine g_lstN (by simp) (fun em H3 nem e3 hem => ?_)

    exact g_eqNe (ns := []) (hD.ex e3) hem (hq _)
end
end PM
/-! part Fin -/
namespace PM
open PySem PySem.Spec PyProof.Rows L2 PMH
theorem law_facts {w : World} {K : PySem.W.Frag} {h : Heap} {mg : Str → Option Value} {f : Addr} (X : K.In h) (G : h.Ns mainGlobals mg) (hf : mg ("law" : Str) = some (.ref f)) (c : He.SaysX fas fns tbs tfs exB w h K) :
    LamX.LawAtS PySem.Challenge.rw_pastmill_k47_whole_cut_down w K CX0 33 63 "_law_script" mg f h := by
  have T : TX w K mg := ⟨⟨h, X, G⟩, c.t.d, c.t.tab 0, c.more⟩
  have e := hf.symm.trans T.g_law
  cases e
  obtain ⟨fd, F⟩ := T.d_law
  have b := FunD.bindsA (ps := ["_law_script"]) F fun _ _ _ _ _ _ us hl => match us, hl with | [_], _ => rfl
  have one : ∀ {p : Addr × Addr}, p ∈ [He.cT K ("_law_by", none)] → p = He.cT K ("_law_by", none) := fun h => List.mem_singleton.mp h
  have m : (("_law_by", none) : He.Defn) ∈ tfs := List.mem_singleton.mpr rfl
  refine ⟨fd, [He.cT K ("_law_by", none)], sp_law K, fun p hp => ?_, fun p hp => ?_, fun p hp => ?_, fun s v => b s [v] rfl, fun H a ns hl _ hH hS => ⟨a, ns, rfl, hS, hl, fun q hq => ?_, fun _ => rfl⟩, fun base _ _ hB => ok_law T (hB _ (List.mem_singleton.mpr rfl)) F⟩
  · rw [one hp]
    exact c.empty _ m
  · rw [one hp]
    exact c.out _ m
  · rw [one hp]
    exact PySem.W.codeHd_of_K X (c.hd _ m)
  · rw [show q = ((He.cT K ("_law_by", none)).2, lamQ) from List.mem_singleton.mp hq]
    exact LamX.TabS.nil (hH _ (List.mem_singleton.mpr rfl))
end PM
open PySem PySem.W PySem.Calls PyProof.Rows
theorem PySem.Challenge.cw_pastmill_k47_whole_cut_down_holds : PySem.Challenge.rw_pastmill_k47_whole_cut_down.Holds := by
  w_on; o_law
  refine HandSHeadRun.head_any (r := PMH.R) (q := view PMH.R.prog [111]) (H := PMH.hk) (ob := PMH.ob) (M := 20000) (loose := PMH.loose) (d := HandSHeadRun.topDef PMH.R.prog 111) (kwd := []) PMH.ob_eq
    (by kernel_rfl) (fun s => by kernel_rfl) PMH.run (by kernel_rfl) (by kernel_rfl) (by kernel_rfl) (by rfl) (by first | assumption | decide +kernel) (by decide +kernel) ⟨rfl, rfl, rfl, rfl, rfl, by decide +kernel⟩ ?hw ?hc
  case hw => w_witness2
  case hc =>
    refine LamX.walk_ofTsE (l := PySem.Challenge.rw_pastmill_k47_whole_cut_down) (n := 63) (k := 33) (x := "_law_script") (CX := fun _ => L2.CX0) rfl (by decide) (by kernel_rfl) ⟨rfl, by decide, by decide⟩ ?F (fun _ _ _ _ _ z => z)
    intro w mg fa h Y G hmg0
    obtain ⟨K, KX, c⟩ := Y
    have hmg : mg ("law" : PySem.Str) = some (.ref fa) := by
      have e : (HandSHeadRun.topDef PMH.R.prog 111).name = ("law" : PySem.Str) := by kernel_rfl
      rw [← e]
      exact hmg0
    exact ⟨K, KX, PM.law_facts KX G hmg c⟩

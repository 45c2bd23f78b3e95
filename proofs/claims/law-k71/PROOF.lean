import PyProof.Rows.All
import Wide.All
import OpenK.AllK
import Wide.FinOn
import HandS.ForMost
import HandS.Defaults
import HandS.Exc
import HandS.HeadHook1
import HandS.HeadHook2
import HandS.HeadHook3
import HandS.HeadHook4
import PySem.Challenge.RW_steadylabels_k71_whole_no_strip_is_enoug
import HandS.ExcField
import KE.KSuper
import KE.KTryMore
import HandS.Head0
import HandS.Head1
import HandS.Head2
import HandS.Evl
import HandS.Walk
import HandS.Zip
import HandS.Star
import HandS.TupAny
import HandS.IsInst
import HandS.Strs
import HandS.Style
import HandS.Codes
import HandS.Deep
import HandS.TupLe
import HandS.Dict
import KE.GoesMore
import KE.GoesEnum
import HandS.TupSets
import HandS.SetFor
import HandS.SetTxt0
import HandS.Set
import KE.SortData
import PyProof.P3In
import HandS.DictComp
import KE.KDictPairs
import HandS.NoneIn
import HandS.Text
import PyProof.RulesMatch
import PyProof.ListStr
import HandS.Small
import HandS.ExcInit
import HandS.ExcValue
import HandS.ExcIs
import KE.KExcSuper
import HandS.Lambda
import HandS.RaiseMore
import PyProof.ReprRoads
import PyProof.StrLawsRepr
import HandS.EndTab
import HandS.HeadWalk
set_option Elab.async false
set_option linter.all false
set_option maxHeartbeats 0
set_option maxRecDepth 100000
/-! Sl0: the text by places, its defs, the facts that the walk asks of the top (printed by gen_facts.py). -/
namespace Sl
open PySem PySem.Spec PyProof.Rows L2
def top (i : Nat) : Stmt := PySem.Challenge.pw_steadylabels_k71_whole_no_strip_is_enoug.main.body.getD i (.Pass ⟨0, 0, 0, 0⟩)
abbrev s_endless : Stmt := top 6
abbrev s_stride_of : Stmt := top 7
abbrev s_span : Stmt := top 8
abbrev s_is_integer : Stmt := top 25
abbrev s_is_between : Stmt := top 26
abbrev s_is_tuple : Stmt := top 27
abbrev s_is_name : Stmt := top 28
abbrev s_is_word : Stmt := top 29
abbrev s_whole_in : Stmt := top 30
abbrev s_is_place : Stmt := top 36
abbrev s_is_weight : Stmt := top 37
abbrev s_is_label : Stmt := top 38
abbrev s_order_key : Stmt := top 39
abbrev s_in_order : Stmt := top 40
abbrev s_gap_between : Stmt := top 41
abbrev s_can_stand : Stmt := top 42
abbrev s_first_bad : Stmt := top 43
abbrev s_are_labels : Stmt := top 44
abbrev s_looked : Stmt := top 46
abbrev s_is_tile : Stmt := top 57
abbrev s_is_side : Stmt := top 58
abbrev s_check_strip : Stmt := top 59
abbrev s_lies_by : Stmt := top 60
abbrev s_meets : Stmt := top 61
abbrev s_labels_told : Stmt := top 62
abbrev s_strip_of : Stmt := top 63
abbrev s_least_strip : Stmt := top 64
abbrev s_row_beyond : Stmt := top 65
abbrev s_labels_of : Stmt := top 66
abbrev s_cut : Stmt := top 67
abbrev s_shows_cut : Stmt := top 68
abbrev s_are_sizes : Stmt := top 88
abbrev s_class_row : Stmt := top 89
abbrev s_read_style : Stmt := top 91
abbrev s_rank_pair : Stmt := top 92
abbrev s_law_pot : Stmt := top 95
abbrev s_law_take : Stmt := top 96
abbrev s_law_of : Stmt := top 97
abbrev s_law_name : Stmt := top 98
abbrev s_law_sizes : Stmt := top 99
abbrev s_law_classes : Stmt := top 100
abbrev s_law_pairs : Stmt := top 101
abbrev s_law_is_there : Stmt := top 102
abbrev s_law_pixel : Stmt := top 103
abbrev s_law_half : Stmt := top 104
abbrev s_law_distance : Stmt := top 105
abbrev s_law_lore : Stmt := top 106
abbrev s_law_text : Stmt := top 107
abbrev s_law_pair : Stmt := top 108
abbrev s_law_rank : Stmt := top 109
abbrev s_law_ordered : Stmt := top 110
abbrev s_law_box : Stmt := top 111
abbrev s_law_apart : Stmt := top 112
abbrev s_law_overlap : Stmt := top 113
abbrev s_law_clash : Stmt := top 114
abbrev s_law_is_near : Stmt := top 115
abbrev s_law_looked : Stmt := top 116
abbrev s_law_shown : Stmt := top 117
abbrev s_law_caught : Stmt := top 118
abbrev s_law_far : Stmt := top 119
abbrev s_law_widest : Stmt := top 120
abbrev s_law_ranks : Stmt := top 121
abbrev s_law_can_bar : Stmt := top 122
abbrev s_law_own : Stmt := top 127
abbrev s_law_by : Stmt := top 129
abbrev s_law_meets : Stmt := top 130
abbrev s_law_tiled : Stmt := top 131
abbrev s_law_is_number : Stmt := top 132
abbrev s_law_is_title : Stmt := top 133
abbrev s_law_is_label : Stmt := top 134
abbrev s_law_is_tile : Stmt := top 135
abbrev s_law_are_labels : Stmt := top 136
abbrev s_law_is_cut : Stmt := top 137
abbrev s_law_strip_right : Stmt := top 138
abbrev s_law_right : Stmt := top 139
abbrev s_law : Stmt := top 140
abbrev s_View_init : Stmt := inClass (top 4) 0
abbrev s_View_is_there : Stmt := inClass (top 4) 1
abbrev s_View_ranks : Stmt := inClass (top 4) 2
abbrev s_View_half_height : Stmt := inClass (top 4) 3
abbrev s_View_half_width : Stmt := inClass (top 4) 4
abbrev s_View_greatest : Stmt := inClass (top 4) 5
abbrev s_View_broadest : Stmt := inClass (top 4) 7
abbrev s_View_can_overlap : Stmt := inClass (top 4) 8
abbrev s_View_can_clash : Stmt := inClass (top 4) 9
abbrev s_View_box : Stmt := inClass (top 4) 10
abbrev s_View_do_overlap : Stmt := inClass (top 4) 11
abbrev s_View_do_clash : Stmt := inClass (top 4) 12
abbrev s_ClassRow_init : Stmt := inClass (top 87) 0
abbrev s_ClassRow_size_at : Stmt := inClass (top 87) 1
abbrev s_Reader_init : Stmt := inClass (top 90) 0
abbrev s_Reader_pair_of : Stmt := inClass (top 90) 1
abbrev s_Reader_take : Stmt := inClass (top 90) 2
abbrev s_Reader_take_zooms : Stmt := inClass (top 90) 3
abbrev s_Reader_take_class : Stmt := inClass (top 90) 4
abbrev s_Reader_take_beside : Stmt := inClass (top 90) 5
abbrev s_Reader_take_far : Stmt := inClass (top 90) 6
abbrev s_Style_init : Stmt := inClass (top 93) 0
abbrev s_Style_check_zoom : Stmt := inClass (top 93) 7
abbrev s_Style_do_compete : Stmt := inClass (top 93) 13
abbrev s_Style_distance : Stmt := inClass (top 93) 14
def d_endless : He.DefD := ⟨("endless", none), "endless", "endless", defArgs s_endless, defBody s_endless, defScope s_endless, [], []⟩
def d_stride_of : He.DefD := ⟨("stride_of", none), "stride_of", "stride_of", defArgs s_stride_of, defBody s_stride_of, defScope s_stride_of, [], []⟩
def d_span : He.DefD := ⟨("span", none), "span", "span", defArgs s_span, defBody s_span, defScope s_span, [], []⟩
def d_is_integer : He.DefD := ⟨("is_integer", none), "is_integer", "is_integer", defArgs s_is_integer, defBody s_is_integer, defScope s_is_integer, [], []⟩
def d_is_between : He.DefD := ⟨("is_between", none), "is_between", "is_between", defArgs s_is_between, defBody s_is_between, defScope s_is_between, [], []⟩
def d_is_tuple : He.DefD := ⟨("is_tuple", none), "is_tuple", "is_tuple", defArgs s_is_tuple, defBody s_is_tuple, defScope s_is_tuple, [], []⟩
def d_is_name : He.DefD := ⟨("is_name", none), "is_name", "is_name", defArgs s_is_name, defBody s_is_name, defScope s_is_name, [], []⟩
def d_is_word : He.DefD := ⟨("is_word", none), "is_word", "is_word", defArgs s_is_word, defBody s_is_word, defScope s_is_word, [], []⟩
def d_whole_in : He.DefD := ⟨("whole_in", none), "whole_in", "whole_in", defArgs s_whole_in, defBody s_whole_in, defScope s_whole_in, [], []⟩
def d_is_place : He.DefD := ⟨("is_place", none), "is_place", "is_place", defArgs s_is_place, defBody s_is_place, defScope s_is_place, [], []⟩
def d_is_weight : He.DefD := ⟨("is_weight", none), "is_weight", "is_weight", defArgs s_is_weight, defBody s_is_weight, defScope s_is_weight, [], []⟩
def d_is_label : He.DefD := ⟨("is_label", none), "is_label", "is_label", defArgs s_is_label, defBody s_is_label, defScope s_is_label, [], []⟩
def d_order_key : He.DefD := ⟨("order_key", none), "order_key", "order_key", defArgs s_order_key, defBody s_order_key, defScope s_order_key, [], []⟩
def d_in_order : He.DefD := ⟨("in_order", none), "in_order", "in_order", defArgs s_in_order, defBody s_in_order, defScope s_in_order, [], []⟩
def d_gap_between : He.DefD := ⟨("gap_between", none), "gap_between", "gap_between", defArgs s_gap_between, defBody s_gap_between, defScope s_gap_between, [], []⟩
def d_can_stand : He.DefD := ⟨("can_stand", none), "can_stand", "can_stand", defArgs s_can_stand, defBody s_can_stand, defScope s_can_stand, [], []⟩
def d_first_bad : He.DefD := ⟨("first_bad", none), "first_bad", "first_bad", defArgs s_first_bad, defBody s_first_bad, defScope s_first_bad, [], []⟩
def d_are_labels : He.DefD := ⟨("are_labels", none), "are_labels", "are_labels", defArgs s_are_labels, defBody s_are_labels, defScope s_are_labels, [], []⟩
def d_looked : He.DefD := ⟨("looked", none), "looked", "looked", defArgs s_looked, defBody s_looked, defScope s_looked, [], []⟩
def d_is_tile : He.DefD := ⟨("is_tile", none), "is_tile", "is_tile", defArgs s_is_tile, defBody s_is_tile, defScope s_is_tile, [], []⟩
def d_is_side : He.DefD := ⟨("is_side", none), "is_side", "is_side", defArgs s_is_side, defBody s_is_side, defScope s_is_side, [], []⟩
def d_check_strip : He.DefD := ⟨("check_strip", none), "check_strip", "check_strip", defArgs s_check_strip, defBody s_check_strip, defScope s_check_strip, [], []⟩
def d_lies_by : He.DefD := ⟨("lies_by", none), "lies_by", "lies_by", defArgs s_lies_by, defBody s_lies_by, defScope s_lies_by, [], []⟩
def d_meets : He.DefD := ⟨("meets", none), "meets", "meets", defArgs s_meets, defBody s_meets, defScope s_meets, [], []⟩
def d_labels_told : He.DefD := ⟨("labels_told", none), "labels_told", "labels_told", defArgs s_labels_told, defBody s_labels_told, defScope s_labels_told, [], []⟩
def d_strip_of : He.DefD := ⟨("strip_of", none), "strip_of", "strip_of", defArgs s_strip_of, defBody s_strip_of, defScope s_strip_of, [], []⟩
def d_least_strip : He.DefD := ⟨("least_strip", none), "least_strip", "least_strip", defArgs s_least_strip, defBody s_least_strip, defScope s_least_strip, [], []⟩
def d_row_beyond : He.DefD := ⟨("row_beyond", none), "row_beyond", "row_beyond", defArgs s_row_beyond, defBody s_row_beyond, defScope s_row_beyond, [], []⟩
def d_labels_of : He.DefD := ⟨("labels_of", none), "labels_of", "labels_of", defArgs s_labels_of, defBody s_labels_of, defScope s_labels_of, [], []⟩
def d_cut : He.DefD := ⟨("cut", none), "cut", "cut", defArgs s_cut, defBody s_cut, defScope s_cut, [], []⟩
def d_shows_cut : He.DefD := ⟨("shows_cut", none), "shows_cut", "shows_cut", defArgs s_shows_cut, defBody s_shows_cut, defScope s_shows_cut, [], []⟩
def d_are_sizes : He.DefD := ⟨("are_sizes", none), "are_sizes", "are_sizes", defArgs s_are_sizes, defBody s_are_sizes, defScope s_are_sizes, [], []⟩
def d_class_row : He.DefD := ⟨("class_row", none), "class_row", "class_row", defArgs s_class_row, defBody s_class_row, defScope s_class_row, [], []⟩
def d_read_style : He.DefD := ⟨("read_style", none), "read_style", "read_style", defArgs s_read_style, defBody s_read_style, defScope s_read_style, [], []⟩
def d_rank_pair : He.DefD := ⟨("rank_pair", none), "rank_pair", "rank_pair", defArgs s_rank_pair, defBody s_rank_pair, defScope s_rank_pair, [], []⟩
def d_law_pot : He.DefD := ⟨("_law_pot", none), "_law_pot", "_law_pot", defArgs s_law_pot, defBody s_law_pot, defScope s_law_pot, [], []⟩
def d_law_take : He.DefD := ⟨("_law_take", none), "_law_take", "_law_take", defArgs s_law_take, defBody s_law_take, defScope s_law_take, [], []⟩
def d_law_of : He.DefD := ⟨("_law_of", none), "_law_of", "_law_of", defArgs s_law_of, defBody s_law_of, defScope s_law_of, [], []⟩
def d_law_name : He.DefD := ⟨("_law_name", none), "_law_name", "_law_name", defArgs s_law_name, defBody s_law_name, defScope s_law_name, [], []⟩
def d_law_sizes : He.DefD := ⟨("_law_sizes", none), "_law_sizes", "_law_sizes", defArgs s_law_sizes, defBody s_law_sizes, defScope s_law_sizes, [], []⟩
def d_law_classes : He.DefD := ⟨("_law_classes", none), "_law_classes", "_law_classes", defArgs s_law_classes, defBody s_law_classes, defScope s_law_classes, [], []⟩
def d_law_pairs : He.DefD := ⟨("_law_pairs", none), "_law_pairs", "_law_pairs", defArgs s_law_pairs, defBody s_law_pairs, defScope s_law_pairs, [], []⟩
def d_law_is_there : He.DefD := ⟨("_law_is_there", none), "_law_is_there", "_law_is_there", defArgs s_law_is_there, defBody s_law_is_there, defScope s_law_is_there, [], []⟩
def d_law_pixel : He.DefD := ⟨("_law_pixel", none), "_law_pixel", "_law_pixel", defArgs s_law_pixel, defBody s_law_pixel, defScope s_law_pixel, [], []⟩
def d_law_half : He.DefD := ⟨("_law_half", none), "_law_half", "_law_half", defArgs s_law_half, defBody s_law_half, defScope s_law_half, [], []⟩
def d_law_distance : He.DefD := ⟨("_law_distance", none), "_law_distance", "_law_distance", defArgs s_law_distance, defBody s_law_distance, defScope s_law_distance, [], []⟩
def d_law_lore : He.DefD := ⟨("_law_lore", none), "_law_lore", "_law_lore", defArgs s_law_lore, defBody s_law_lore, defScope s_law_lore, [], []⟩
def d_law_text : He.DefD := ⟨("_law_text", none), "_law_text", "_law_text", defArgs s_law_text, defBody s_law_text, defScope s_law_text, [], []⟩
def d_law_pair : He.DefD := ⟨("_law_pair", none), "_law_pair", "_law_pair", defArgs s_law_pair, defBody s_law_pair, defScope s_law_pair, [], []⟩
def d_law_rank : He.DefD := ⟨("_law_rank", none), "_law_rank", "_law_rank", defArgs s_law_rank, defBody s_law_rank, defScope s_law_rank, [], []⟩
def d_law_ordered : He.DefD := ⟨("_law_ordered", none), "_law_ordered", "_law_ordered", defArgs s_law_ordered, defBody s_law_ordered, defScope s_law_ordered, [], []⟩
def d_law_box : He.DefD := ⟨("_law_box", none), "_law_box", "_law_box", defArgs s_law_box, defBody s_law_box, defScope s_law_box, [], []⟩
def d_law_apart : He.DefD := ⟨("_law_apart", none), "_law_apart", "_law_apart", defArgs s_law_apart, defBody s_law_apart, defScope s_law_apart, [], []⟩
def d_law_overlap : He.DefD := ⟨("_law_overlap", none), "_law_overlap", "_law_overlap", defArgs s_law_overlap, defBody s_law_overlap, defScope s_law_overlap, [], []⟩
def d_law_clash : He.DefD := ⟨("_law_clash", none), "_law_clash", "_law_clash", defArgs s_law_clash, defBody s_law_clash, defScope s_law_clash, [], []⟩
def d_law_is_near : He.DefD := ⟨("_law_is_near", none), "_law_is_near", "_law_is_near", defArgs s_law_is_near, defBody s_law_is_near, defScope s_law_is_near, [], []⟩
def d_law_looked : He.DefD := ⟨("_law_looked", none), "_law_looked", "_law_looked", defArgs s_law_looked, defBody s_law_looked, defScope s_law_looked, [], []⟩
def d_law_shown : He.DefD := ⟨("_law_shown", none), "_law_shown", "_law_shown", defArgs s_law_shown, defBody s_law_shown, defScope s_law_shown, [], []⟩
def d_law_caught : He.DefD := ⟨("_law_caught", none), "_law_caught", "_law_caught", defArgs s_law_caught, defBody s_law_caught, defScope s_law_caught, [], []⟩
def d_law_far : He.DefD := ⟨("_law_far", none), "_law_far", "_law_far", defArgs s_law_far, defBody s_law_far, defScope s_law_far, [], []⟩
def d_law_widest : He.DefD := ⟨("_law_widest", none), "_law_widest", "_law_widest", defArgs s_law_widest, defBody s_law_widest, defScope s_law_widest, [], []⟩
def d_law_ranks : He.DefD := ⟨("_law_ranks", none), "_law_ranks", "_law_ranks", defArgs s_law_ranks, defBody s_law_ranks, defScope s_law_ranks, [], []⟩
def d_law_can_bar : He.DefD := ⟨("_law_can_bar", none), "_law_can_bar", "_law_can_bar", defArgs s_law_can_bar, defBody s_law_can_bar, defScope s_law_can_bar, [], []⟩
def d_law_own : He.DefD := ⟨("_law_own", none), "_law_own", "_law_own", defArgs s_law_own, defBody s_law_own, defScope s_law_own, [], []⟩
def d_law_by : He.DefD := ⟨("_law_by", none), "_law_by", "_law_by", defArgs s_law_by, defBody s_law_by, defScope s_law_by, [], []⟩
def d_law_meets : He.DefD := ⟨("_law_meets", none), "_law_meets", "_law_meets", defArgs s_law_meets, defBody s_law_meets, defScope s_law_meets, [], []⟩
def d_law_tiled : He.DefD := ⟨("_law_tiled", none), "_law_tiled", "_law_tiled", defArgs s_law_tiled, defBody s_law_tiled, defScope s_law_tiled, [], []⟩
def d_law_is_number : He.DefD := ⟨("_law_is_number", none), "_law_is_number", "_law_is_number", defArgs s_law_is_number, defBody s_law_is_number, defScope s_law_is_number, [], []⟩
def d_law_is_title : He.DefD := ⟨("_law_is_title", none), "_law_is_title", "_law_is_title", defArgs s_law_is_title, defBody s_law_is_title, defScope s_law_is_title, [], []⟩
def d_law_is_label : He.DefD := ⟨("_law_is_label", none), "_law_is_label", "_law_is_label", defArgs s_law_is_label, defBody s_law_is_label, defScope s_law_is_label, [], []⟩
def d_law_is_tile : He.DefD := ⟨("_law_is_tile", none), "_law_is_tile", "_law_is_tile", defArgs s_law_is_tile, defBody s_law_is_tile, defScope s_law_is_tile, [], []⟩
def d_law_are_labels : He.DefD := ⟨("_law_are_labels", none), "_law_are_labels", "_law_are_labels", defArgs s_law_are_labels, defBody s_law_are_labels, defScope s_law_are_labels, [], []⟩
def d_law_is_cut : He.DefD := ⟨("_law_is_cut", none), "_law_is_cut", "_law_is_cut", defArgs s_law_is_cut, defBody s_law_is_cut, defScope s_law_is_cut, [], []⟩
def d_law_strip_right : He.DefD := ⟨("_law_strip_right", none), "_law_strip_right", "_law_strip_right", defArgs s_law_strip_right, defBody s_law_strip_right, defScope s_law_strip_right, [], []⟩
def d_law_right : He.DefD := ⟨("_law_right", none), "_law_right", "_law_right", defArgs s_law_right, defBody s_law_right, defScope s_law_right, [], []⟩
def d_law : He.DefD := ⟨("law", none), "law", "law", defArgs s_law, defBody s_law, defScope s_law, [], []⟩
def d_View_init : He.DefD := ⟨("View", some "__init__"), "__init__", "View.__init__", defArgs s_View_init, defBody s_View_init, defScope s_View_init, [.non], []⟩
def d_View_is_there : He.DefD := ⟨("View", some "is_there"), "is_there", "View.is_there", defArgs s_View_is_there, defBody s_View_is_there, defScope s_View_is_there, [], []⟩
def d_View_ranks : He.DefD := ⟨("View", some "ranks"), "ranks", "View.ranks", defArgs s_View_ranks, defBody s_View_ranks, defScope s_View_ranks, [], []⟩
def d_View_half_height : He.DefD := ⟨("View", some "half_height"), "half_height", "View.half_height", defArgs s_View_half_height, defBody s_View_half_height, defScope s_View_half_height, [], []⟩
def d_View_half_width : He.DefD := ⟨("View", some "half_width"), "half_width", "View.half_width", defArgs s_View_half_width, defBody s_View_half_width, defScope s_View_half_width, [], []⟩
def d_View_greatest : He.DefD := ⟨("View", some "greatest"), "greatest", "View.greatest", defArgs s_View_greatest, defBody s_View_greatest, defScope s_View_greatest, [], []⟩
def d_View_broadest : He.DefD := ⟨("View", some "broadest"), "broadest", "View.broadest", defArgs s_View_broadest, defBody s_View_broadest, defScope s_View_broadest, [], []⟩
def d_View_can_overlap : He.DefD := ⟨("View", some "can_overlap"), "can_overlap", "View.can_overlap", defArgs s_View_can_overlap, defBody s_View_can_overlap, defScope s_View_can_overlap, [], []⟩
def d_View_can_clash : He.DefD := ⟨("View", some "can_clash"), "can_clash", "View.can_clash", defArgs s_View_can_clash, defBody s_View_can_clash, defScope s_View_can_clash, [], []⟩
def d_View_box : He.DefD := ⟨("View", some "box"), "box", "View.box", defArgs s_View_box, defBody s_View_box, defScope s_View_box, [], []⟩
def d_View_do_overlap : He.DefD := ⟨("View", some "do_overlap"), "do_overlap", "View.do_overlap", defArgs s_View_do_overlap, defBody s_View_do_overlap, defScope s_View_do_overlap, [], []⟩
def d_View_do_clash : He.DefD := ⟨("View", some "do_clash"), "do_clash", "View.do_clash", defArgs s_View_do_clash, defBody s_View_do_clash, defScope s_View_do_clash, [], []⟩
def d_ClassRow_init : He.DefD := ⟨("ClassRow", some "__init__"), "__init__", "ClassRow.__init__", defArgs s_ClassRow_init, defBody s_ClassRow_init, defScope s_ClassRow_init, [], []⟩
def d_ClassRow_size_at : He.DefD := ⟨("ClassRow", some "size_at"), "size_at", "ClassRow.size_at", defArgs s_ClassRow_size_at, defBody s_ClassRow_size_at, defScope s_ClassRow_size_at, [], []⟩
def d_Reader_init : He.DefD := ⟨("Reader", some "__init__"), "__init__", "Reader.__init__", defArgs s_Reader_init, defBody s_Reader_init, defScope s_Reader_init, [], []⟩
def d_Reader_pair_of : He.DefD := ⟨("Reader", some "pair_of"), "pair_of", "Reader.pair_of", defArgs s_Reader_pair_of, defBody s_Reader_pair_of, defScope s_Reader_pair_of, [], []⟩
def d_Reader_take : He.DefD := ⟨("Reader", some "take"), "take", "Reader.take", defArgs s_Reader_take, defBody s_Reader_take, defScope s_Reader_take, [], []⟩
def d_Reader_take_zooms : He.DefD := ⟨("Reader", some "take_zooms"), "take_zooms", "Reader.take_zooms", defArgs s_Reader_take_zooms, defBody s_Reader_take_zooms, defScope s_Reader_take_zooms, [], []⟩
def d_Reader_take_class : He.DefD := ⟨("Reader", some "take_class"), "take_class", "Reader.take_class", defArgs s_Reader_take_class, defBody s_Reader_take_class, defScope s_Reader_take_class, [], []⟩
def d_Reader_take_beside : He.DefD := ⟨("Reader", some "take_beside"), "take_beside", "Reader.take_beside", defArgs s_Reader_take_beside, defBody s_Reader_take_beside, defScope s_Reader_take_beside, [], []⟩
def d_Reader_take_far : He.DefD := ⟨("Reader", some "take_far"), "take_far", "Reader.take_far", defArgs s_Reader_take_far, defBody s_Reader_take_far, defScope s_Reader_take_far, [], []⟩
def d_Style_init : He.DefD := ⟨("Style", some "__init__"), "__init__", "Style.__init__", defArgs s_Style_init, defBody s_Style_init, defScope s_Style_init, [], []⟩
def d_Style_check_zoom : He.DefD := ⟨("Style", some "check_zoom"), "check_zoom", "Style.check_zoom", defArgs s_Style_check_zoom, defBody s_Style_check_zoom, defScope s_Style_check_zoom, [], []⟩
def d_Style_do_compete : He.DefD := ⟨("Style", some "do_compete"), "do_compete", "Style.do_compete", defArgs s_Style_do_compete, defBody s_Style_do_compete, defScope s_Style_do_compete, [], []⟩
def d_Style_distance : He.DefD := ⟨("Style", some "distance"), "distance", "Style.distance", defArgs s_Style_distance, defBody s_Style_distance, defScope s_Style_distance, [], []⟩
def fnl0 : List He.DefD := [d_endless, d_stride_of, d_span, d_is_integer, d_is_between, d_is_tuple, d_is_name, d_is_word, d_whole_in, d_is_place, d_is_weight, d_is_label, d_order_key, d_in_order, d_gap_between, d_can_stand, d_first_bad, d_are_labels, d_looked, d_is_tile, d_is_side, d_check_strip, d_lies_by, d_meets, d_labels_told, d_strip_of, d_least_strip, d_row_beyond, d_labels_of, d_cut]
def fnl1 : List He.DefD := [d_shows_cut, d_are_sizes, d_class_row, d_read_style, d_rank_pair, d_law_pot, d_law_take, d_law_of, d_law_name, d_law_sizes, d_law_classes, d_law_pairs, d_law_is_there, d_law_pixel, d_law_half, d_law_distance, d_law_lore, d_law_text, d_law_pair, d_law_rank, d_law_ordered, d_law_box, d_law_apart, d_law_overlap, d_law_clash, d_law_is_near, d_law_looked, d_law_shown, d_law_caught, d_law_far]
def fnl2 : List He.DefD := [d_law_widest, d_law_ranks, d_law_can_bar, d_law_own, d_law_by, d_law_meets, d_law_tiled, d_law_is_number, d_law_is_title, d_law_is_label, d_law_is_tile, d_law_are_labels, d_law_is_cut, d_law_strip_right, d_law_right, d_law, d_View_init, d_View_is_there, d_View_ranks, d_View_half_height, d_View_half_width, d_View_greatest, d_View_broadest, d_View_can_overlap, d_View_can_clash, d_View_box, d_View_do_overlap, d_View_do_clash, d_ClassRow_init, d_ClassRow_size_at]
def fnl3 : List He.DefD := [d_Reader_init, d_Reader_pair_of, d_Reader_take, d_Reader_take_zooms, d_Reader_take_class, d_Reader_take_beside, d_Reader_take_far, d_Style_init, d_Style_check_zoom, d_Style_do_compete, d_Style_distance]
def fnl : List He.DefD := fnl0 ++ fnl1 ++ fnl2 ++ fnl3
def fal0 : List He.Fa := [.glo "endless", .glo "stride_of", .glo "span", .glo "is_integer", .glo "is_between", .glo "is_tuple", .glo "is_name", .glo "is_word", .glo "whole_in", .glo "is_place", .glo "is_weight", .glo "is_label", .glo "order_key", .glo "in_order", .glo "gap_between", .glo "can_stand", .glo "first_bad", .glo "are_labels", .glo "looked", .glo "is_tile", .glo "is_side", .glo "check_strip", .glo "lies_by", .glo "meets", .glo "labels_told", .glo "strip_of", .glo "least_strip", .glo "row_beyond", .glo "labels_of", .glo "cut"]
def fal1 : List He.Fa := [.glo "shows_cut", .glo "are_sizes", .glo "class_row", .glo "read_style", .glo "rank_pair", .glo "_law_pot", .glo "_law_take", .glo "_law_of", .glo "_law_name", .glo "_law_sizes", .glo "_law_classes", .glo "_law_pairs", .glo "_law_is_there", .glo "_law_pixel", .glo "_law_half", .glo "_law_distance", .glo "_law_lore", .glo "_law_text", .glo "_law_pair", .glo "_law_rank", .glo "_law_ordered", .glo "_law_box", .glo "_law_apart", .glo "_law_overlap", .glo "_law_clash", .glo "_law_is_near", .glo "_law_looked", .glo "_law_shown", .glo "_law_caught", .glo "_law_far"]
def fal2 : List He.Fa := [.glo "_law_widest", .glo "_law_ranks", .glo "_law_can_bar", .glo "_law_own", .glo "_law_by", .glo "_law_meets", .glo "_law_tiled", .glo "_law_is_number", .glo "_law_is_title", .glo "_law_is_label", .glo "_law_is_tile", .glo "_law_are_labels", .glo "_law_is_cut", .glo "_law_strip_right", .glo "_law_right", .glo "law", .glo "View", .glo "ClassRow", .glo "Reader", .glo "Style", .glo "LabelError", .glo "TooMany", .free "TypeError", .free "abs", .free "all", .free "any", .free "bool", .free "dict", .free "enumerate", .free "int"]
def fal3 : List He.Fa := [.free "isinstance", .free "len", .free "list", .free "max", .free "min", .free "property", .free "range", .free "repr", .free "set", .free "sorted", .free "str", .free "sum", .free "tuple", .free "zip", .int "WIDE" 0, .int "HIGH" 1, .str "LETTERS_words" "abcdefghijklmnopqrstuvwxyz", .str "FIGURES" "0123456789", .int "MOST_LETTERS" 12, .str "ZERO" "0", .int "LABEL_PARTS" 6, .int "MOST_LABELS" 30, .int "MOST_WEIGHT" 9, .int "MOST_PLACE" 99999, .str "NONE" "none", .int "PAIR" 2, .int "TRIPLE" 3, .str "STRIP" "strip", .str "WHOLE" "whole", .str "CUT" "cut"]
def fal4 : List He.Fa := [.int "MOST_SIDE" 9999, .str "LETTERS_tiles" "abcdefghijklmnopqrstuvwxyz", .str "ZOOMS" "zooms", .str "CLASS" "class", .str "BESIDE" "beside", .str "FAR" "far", .int "MOST_ZOOMS" 5, .int "MOST_CLASSES" 4, .int "LEAST_SIZE" 2, .int "MOST_SIZE" 9, .int "MOST_LEAST" 9, .int "MOST_MORE" 3, .int "MOST_FAR" 9999, .int "ZOOMS_WORDS" 2, .int "CLASS_WORDS" 6, .int "BESIDE_WORDS" 3, .int "FAR_WORDS" 4, .int "SIZES_AT" 5, .cls "View", .mkr "View", .noat "View" "own_style", .noat "View" "own_zoom", .noat "View" "own_pixel", .noat "View" "own_sizes", .meth "View" "is_there", .meth "View" "ranks", .meth "View" "half_height", .meth "View" "half_width", .meth "View" "greatest", .meth "View" "broadest"]
def fal5 : List He.Fa := [.meth "View" "can_overlap", .meth "View" "can_clash", .meth "View" "box", .meth "View" "do_overlap", .meth "View" "do_clash", .cls "ClassRow", .mkr "ClassRow", .noat "ClassRow" "own_name", .noat "ClassRow" "own_first", .noat "ClassRow" "own_letters", .noat "ClassRow" "own_sizes", .meth "ClassRow" "size_at", .cls "Reader", .mkr "Reader", .noat "Reader" "own_sort", .noat "Reader" "own_last", .noat "Reader" "own_rows", .noat "Reader" "own_beside", .noat "Reader" "own_far", .meth "Reader" "pair_of", .meth "Reader" "take", .meth "Reader" "take_zooms", .meth "Reader" "take_class", .meth "Reader" "take_beside", .meth "Reader" "take_far", .cls "Style", .mkr "Style", .noat "Style" "own_text", .noat "Style" "own_last", .noat "Style" "own_rows"]
def fal6 : List He.Fa := [.noat "Style" "own_ranks", .noat "Style" "own_beside", .noat "Style" "own_far", .meth "Style" "check_zoom", .meth "Style" "do_compete", .meth "Style" "distance"]
def fal : List He.Fa := fal0 ++ fal1 ++ fal2 ++ fal3 ++ fal4 ++ fal5 ++ fal6
/-- further facts of the written part, one Bool -/
def bhA (K : PySem.W.Frag) (k : Str) : Addr := match PySem.W.nsIn K (He.ga K "BEHIND") k with
  | some (some (.ref a)) => a
  | _ => 0
def tupAtB (K : PySem.W.Frag) (a : Addr) (vs : List V) : Bool := match K.lookup a with
  | some ⟨.type c, _, .seq its _, _⟩ => decide (c = "tuple") && (decide (its.size ≤ sizeLine) && He.relAll vs its.toList)
  | _ => false
theorem tupAtB_ok {K : PySem.W.Frag} {a : Addr} {vs : List V} (h : tupAtB K a vs = true) (H : Hp) : SqT K H a vs := by
  unfold tupAtB at h
  cases q : K.lookup a with
  | none =>
    rw [q] at h
    cases h
  | some o =>
    obtain ⟨oc, od, dt, osl⟩ := o
    rw [q] at h
    cases oc with
    | type c =>
      cases dt with
      | seq its n =>
        obtain ⟨h1, h2⟩ := He.ba (show (decide (c = "tuple") && (decide (its.size ≤ sizeLine) && He.relAll vs its.toList)) = true from h)
        obtain ⟨h3, h4⟩ := He.ba h2
        exact .inr ⟨_, its, n, q, congrArg Value.type (of_decide_eq_true h1), rfl, of_decide_eq_true h3, He.relAll_ok h4⟩
      | _ => cases h
    | _ => cases dt <;> cases h
def bhRow (K : PySem.W.Frag) (k : Str) (vs : List Str) : Bool := decide (PySem.W.nsIn K (He.ga K "BEHIND") k = some (some (.ref (bhA K k)))) && tupAtB K (bhA K k) (vs.map V.str)
def bhRows : List (Str × List Str) := [("", ["zooms"]), ("zooms", ["class"]), ("class", ["class", "beside", "far"]), ("beside", ["beside", "far"]), ("far", ["far"])]
def exB (K : PySem.W.Frag) : Bool := He.eqO (PySem.W.nsIn K mainGlobals "CUT_TILE") (some (some (.ref (He.ga K "CUT_TILE")))) && (tupAtB K (He.ga K "CUT_TILE") [.int 50000, .int 0, .int 1] &&
  (He.eqO (PySem.W.nsIn K mainGlobals "BEHIND") (some (some (.ref (He.ga K "BEHIND")))) && bhRows.all fun r => bhRow K r.1 r.2))
def tabl : List He.Tab := [((fun K => He.ga K "BEHIND"), ["", "zooms", "class", "beside", "far"])]
def lams : List He.Defn := [("_law_strip_right", none)]
/-- what the walk leans on -/
structure Tx (w : World) (K : PySem.W.Frag) (mg : Str → Option Value) : Prop where
  ex : ∃ h : Heap, K.In h ∧ h.Ns mainGlobals mg ∧ He.SaysX fal [] tabl lams exB w h K
  dx : He.SaysD [] fnl K
section
variable {w : World} {K : PySem.W.Frag} {mg : Str → Option Value}
theorem Tx.fc (T : Tx w K mg) (i : Nat) {f : He.Fa} (e : fal[i]? = some f) : ∃ h : Heap, K.In h ∧ h.Ns mainGlobals mg ∧ f.ok K = true := by
  obtain ⟨h, X, G, c⟩ := T.ex
  exact ⟨h, X, G, c.t.d.fact i e⟩
theorem Tx.df (T : Tx w K mg) (i : Nat) {d : He.DefD} (e : fnl[i]? = some d) : ∃ fd, FunD K d.name d.qual d.params d.body d.scope (d.dvs K) (d.kws K) (He.fAd K d.at_) fd := by
  exact T.dx.def_ i e
theorem Tx.g_endless (T : Tx w K mg) : mg "endless" = some (.ref (He.ga K "endless")) := by
  obtain ⟨h, X, G, c⟩ := T.fc 0 (f := .glo "endless") rfl
  exact He.glo_ok X G c
theorem Tx.g_stride_of (T : Tx w K mg) : mg "stride_of" = some (.ref (He.ga K "stride_of")) := by
  obtain ⟨h, X, G, c⟩ := T.fc 1 (f := .glo "stride_of") rfl
  exact He.glo_ok X G c
theorem Tx.g_span (T : Tx w K mg) : mg "span" = some (.ref (He.ga K "span")) := by
  obtain ⟨h, X, G, c⟩ := T.fc 2 (f := .glo "span") rfl
  exact He.glo_ok X G c
theorem Tx.g_is_integer (T : Tx w K mg) : mg "is_integer" = some (.ref (He.ga K "is_integer")) := by
  obtain ⟨h, X, G, c⟩ := T.fc 3 (f := .glo "is_integer") rfl
  exact He.glo_ok X G c
theorem Tx.g_is_between (T : Tx w K mg) : mg "is_between" = some (.ref (He.ga K "is_between")) := by
  obtain ⟨h, X, G, c⟩ := T.fc 4 (f := .glo "is_between") rfl
  exact He.glo_ok X G c
theorem Tx.g_is_tuple (T : Tx w K mg) : mg "is_tuple" = some (.ref (He.ga K "is_tuple")) := by
  obtain ⟨h, X, G, c⟩ := T.fc 5 (f := .glo "is_tuple") rfl
  exact He.glo_ok X G c
theorem Tx.g_is_name (T : Tx w K mg) : mg "is_name" = some (.ref (He.ga K "is_name")) := by
  obtain ⟨h, X, G, c⟩ := T.fc 6 (f := .glo "is_name") rfl
  exact He.glo_ok X G c
theorem Tx.g_is_word (T : Tx w K mg) : mg "is_word" = some (.ref (He.ga K "is_word")) := by
  obtain ⟨h, X, G, c⟩ := T.fc 7 (f := .glo "is_word") rfl
  exact He.glo_ok X G c
theorem Tx.g_whole_in (T : Tx w K mg) : mg "whole_in" = some (.ref (He.ga K "whole_in")) := by
  obtain ⟨h, X, G, c⟩ := T.fc 8 (f := .glo "whole_in") rfl
  exact He.glo_ok X G c
theorem Tx.g_is_place (T : Tx w K mg) : mg "is_place" = some (.ref (He.ga K "is_place")) := by
  obtain ⟨h, X, G, c⟩ := T.fc 9 (f := .glo "is_place") rfl
  exact He.glo_ok X G c
theorem Tx.g_is_weight (T : Tx w K mg) : mg "is_weight" = some (.ref (He.ga K "is_weight")) := by
  obtain ⟨h, X, G, c⟩ := T.fc 10 (f := .glo "is_weight") rfl
  exact He.glo_ok X G c
theorem Tx.g_is_label (T : Tx w K mg) : mg "is_label" = some (.ref (He.ga K "is_label")) := by
  obtain ⟨h, X, G, c⟩ := T.fc 11 (f := .glo "is_label") rfl
  exact He.glo_ok X G c
theorem Tx.g_order_key (T : Tx w K mg) : mg "order_key" = some (.ref (He.ga K "order_key")) := by
  obtain ⟨h, X, G, c⟩ := T.fc 12 (f := .glo "order_key") rfl
  exact He.glo_ok X G c
theorem Tx.g_in_order (T : Tx w K mg) : mg "in_order" = some (.ref (He.ga K "in_order")) := by
  obtain ⟨h, X, G, c⟩ := T.fc 13 (f := .glo "in_order") rfl
  exact He.glo_ok X G c
theorem Tx.g_gap_between (T : Tx w K mg) : mg "gap_between" = some (.ref (He.ga K "gap_between")) := by
  obtain ⟨h, X, G, c⟩ := T.fc 14 (f := .glo "gap_between") rfl
  exact He.glo_ok X G c
theorem Tx.g_can_stand (T : Tx w K mg) : mg "can_stand" = some (.ref (He.ga K "can_stand")) := by
  obtain ⟨h, X, G, c⟩ := T.fc 15 (f := .glo "can_stand") rfl
  exact He.glo_ok X G c
theorem Tx.g_first_bad (T : Tx w K mg) : mg "first_bad" = some (.ref (He.ga K "first_bad")) := by
  obtain ⟨h, X, G, c⟩ := T.fc 16 (f := .glo "first_bad") rfl
  exact He.glo_ok X G c
theorem Tx.g_are_labels (T : Tx w K mg) : mg "are_labels" = some (.ref (He.ga K "are_labels")) := by
  obtain ⟨h, X, G, c⟩ := T.fc 17 (f := .glo "are_labels") rfl
  exact He.glo_ok X G c
theorem Tx.g_looked (T : Tx w K mg) : mg "looked" = some (.ref (He.ga K "looked")) := by
  obtain ⟨h, X, G, c⟩ := T.fc 18 (f := .glo "looked") rfl
  exact He.glo_ok X G c
theorem Tx.g_is_tile (T : Tx w K mg) : mg "is_tile" = some (.ref (He.ga K "is_tile")) := by
  obtain ⟨h, X, G, c⟩ := T.fc 19 (f := .glo "is_tile") rfl
  exact He.glo_ok X G c
theorem Tx.g_is_side (T : Tx w K mg) : mg "is_side" = some (.ref (He.ga K "is_side")) := by
  obtain ⟨h, X, G, c⟩ := T.fc 20 (f := .glo "is_side") rfl
  exact He.glo_ok X G c
theorem Tx.g_check_strip (T : Tx w K mg) : mg "check_strip" = some (.ref (He.ga K "check_strip")) := by
  obtain ⟨h, X, G, c⟩ := T.fc 21 (f := .glo "check_strip") rfl
  exact He.glo_ok X G c
theorem Tx.g_lies_by (T : Tx w K mg) : mg "lies_by" = some (.ref (He.ga K "lies_by")) := by
  obtain ⟨h, X, G, c⟩ := T.fc 22 (f := .glo "lies_by") rfl
  exact He.glo_ok X G c
theorem Tx.g_meets (T : Tx w K mg) : mg "meets" = some (.ref (He.ga K "meets")) := by
  obtain ⟨h, X, G, c⟩ := T.fc 23 (f := .glo "meets") rfl
  exact He.glo_ok X G c
theorem Tx.g_labels_told (T : Tx w K mg) : mg "labels_told" = some (.ref (He.ga K "labels_told")) := by
  obtain ⟨h, X, G, c⟩ := T.fc 24 (f := .glo "labels_told") rfl
  exact He.glo_ok X G c
theorem Tx.g_strip_of (T : Tx w K mg) : mg "strip_of" = some (.ref (He.ga K "strip_of")) := by
  obtain ⟨h, X, G, c⟩ := T.fc 25 (f := .glo "strip_of") rfl
  exact He.glo_ok X G c
theorem Tx.g_least_strip (T : Tx w K mg) : mg "least_strip" = some (.ref (He.ga K "least_strip")) := by
  obtain ⟨h, X, G, c⟩ := T.fc 26 (f := .glo "least_strip") rfl
  exact He.glo_ok X G c
theorem Tx.g_row_beyond (T : Tx w K mg) : mg "row_beyond" = some (.ref (He.ga K "row_beyond")) := by
  obtain ⟨h, X, G, c⟩ := T.fc 27 (f := .glo "row_beyond") rfl
  exact He.glo_ok X G c
theorem Tx.g_labels_of (T : Tx w K mg) : mg "labels_of" = some (.ref (He.ga K "labels_of")) := by
  obtain ⟨h, X, G, c⟩ := T.fc 28 (f := .glo "labels_of") rfl
  exact He.glo_ok X G c
theorem Tx.g_cut (T : Tx w K mg) : mg "cut" = some (.ref (He.ga K "cut")) := by
  obtain ⟨h, X, G, c⟩ := T.fc 29 (f := .glo "cut") rfl
  exact He.glo_ok X G c
theorem Tx.g_shows_cut (T : Tx w K mg) : mg "shows_cut" = some (.ref (He.ga K "shows_cut")) := by
  obtain ⟨h, X, G, c⟩ := T.fc 30 (f := .glo "shows_cut") rfl
  exact He.glo_ok X G c
theorem Tx.g_are_sizes (T : Tx w K mg) : mg "are_sizes" = some (.ref (He.ga K "are_sizes")) := by
  obtain ⟨h, X, G, c⟩ := T.fc 31 (f := .glo "are_sizes") rfl
  exact He.glo_ok X G c
theorem Tx.g_class_row (T : Tx w K mg) : mg "class_row" = some (.ref (He.ga K "class_row")) := by
  obtain ⟨h, X, G, c⟩ := T.fc 32 (f := .glo "class_row") rfl
  exact He.glo_ok X G c
theorem Tx.g_read_style (T : Tx w K mg) : mg "read_style" = some (.ref (He.ga K "read_style")) := by
  obtain ⟨h, X, G, c⟩ := T.fc 33 (f := .glo "read_style") rfl
  exact He.glo_ok X G c
theorem Tx.g_rank_pair (T : Tx w K mg) : mg "rank_pair" = some (.ref (He.ga K "rank_pair")) := by
  obtain ⟨h, X, G, c⟩ := T.fc 34 (f := .glo "rank_pair") rfl
  exact He.glo_ok X G c
theorem Tx.g_law_pot (T : Tx w K mg) : mg "_law_pot" = some (.ref (He.ga K "_law_pot")) := by
  obtain ⟨h, X, G, c⟩ := T.fc 35 (f := .glo "_law_pot") rfl
  exact He.glo_ok X G c
theorem Tx.g_law_take (T : Tx w K mg) : mg "_law_take" = some (.ref (He.ga K "_law_take")) := by
  obtain ⟨h, X, G, c⟩ := T.fc 36 (f := .glo "_law_take") rfl
  exact He.glo_ok X G c
theorem Tx.g_law_of (T : Tx w K mg) : mg "_law_of" = some (.ref (He.ga K "_law_of")) := by
  obtain ⟨h, X, G, c⟩ := T.fc 37 (f := .glo "_law_of") rfl
  exact He.glo_ok X G c
theorem Tx.g_law_name (T : Tx w K mg) : mg "_law_name" = some (.ref (He.ga K "_law_name")) := by
  obtain ⟨h, X, G, c⟩ := T.fc 38 (f := .glo "_law_name") rfl
  exact He.glo_ok X G c
theorem Tx.g_law_sizes (T : Tx w K mg) : mg "_law_sizes" = some (.ref (He.ga K "_law_sizes")) := by
  obtain ⟨h, X, G, c⟩ := T.fc 39 (f := .glo "_law_sizes") rfl
  exact He.glo_ok X G c
theorem Tx.g_law_classes (T : Tx w K mg) : mg "_law_classes" = some (.ref (He.ga K "_law_classes")) := by
  obtain ⟨h, X, G, c⟩ := T.fc 40 (f := .glo "_law_classes") rfl
  exact He.glo_ok X G c
theorem Tx.g_law_pairs (T : Tx w K mg) : mg "_law_pairs" = some (.ref (He.ga K "_law_pairs")) := by
  obtain ⟨h, X, G, c⟩ := T.fc 41 (f := .glo "_law_pairs") rfl
  exact He.glo_ok X G c
theorem Tx.g_law_is_there (T : Tx w K mg) : mg "_law_is_there" = some (.ref (He.ga K "_law_is_there")) := by
  obtain ⟨h, X, G, c⟩ := T.fc 42 (f := .glo "_law_is_there") rfl
  exact He.glo_ok X G c
theorem Tx.g_law_pixel (T : Tx w K mg) : mg "_law_pixel" = some (.ref (He.ga K "_law_pixel")) := by
  obtain ⟨h, X, G, c⟩ := T.fc 43 (f := .glo "_law_pixel") rfl
  exact He.glo_ok X G c
theorem Tx.g_law_half (T : Tx w K mg) : mg "_law_half" = some (.ref (He.ga K "_law_half")) := by
  obtain ⟨h, X, G, c⟩ := T.fc 44 (f := .glo "_law_half") rfl
  exact He.glo_ok X G c
theorem Tx.g_law_distance (T : Tx w K mg) : mg "_law_distance" = some (.ref (He.ga K "_law_distance")) := by
  obtain ⟨h, X, G, c⟩ := T.fc 45 (f := .glo "_law_distance") rfl
  exact He.glo_ok X G c
theorem Tx.g_law_lore (T : Tx w K mg) : mg "_law_lore" = some (.ref (He.ga K "_law_lore")) := by
  obtain ⟨h, X, G, c⟩ := T.fc 46 (f := .glo "_law_lore") rfl
  exact He.glo_ok X G c
theorem Tx.g_law_text (T : Tx w K mg) : mg "_law_text" = some (.ref (He.ga K "_law_text")) := by
  obtain ⟨h, X, G, c⟩ := T.fc 47 (f := .glo "_law_text") rfl
  exact He.glo_ok X G c
theorem Tx.g_law_pair (T : Tx w K mg) : mg "_law_pair" = some (.ref (He.ga K "_law_pair")) := by
  obtain ⟨h, X, G, c⟩ := T.fc 48 (f := .glo "_law_pair") rfl
  exact He.glo_ok X G c
theorem Tx.g_law_rank (T : Tx w K mg) : mg "_law_rank" = some (.ref (He.ga K "_law_rank")) := by
  obtain ⟨h, X, G, c⟩ := T.fc 49 (f := .glo "_law_rank") rfl
  exact He.glo_ok X G c
theorem Tx.g_law_ordered (T : Tx w K mg) : mg "_law_ordered" = some (.ref (He.ga K "_law_ordered")) := by
  obtain ⟨h, X, G, c⟩ := T.fc 50 (f := .glo "_law_ordered") rfl
  exact He.glo_ok X G c
theorem Tx.g_law_box (T : Tx w K mg) : mg "_law_box" = some (.ref (He.ga K "_law_box")) := by
  obtain ⟨h, X, G, c⟩ := T.fc 51 (f := .glo "_law_box") rfl
  exact He.glo_ok X G c
theorem Tx.g_law_apart (T : Tx w K mg) : mg "_law_apart" = some (.ref (He.ga K "_law_apart")) := by
  obtain ⟨h, X, G, c⟩ := T.fc 52 (f := .glo "_law_apart") rfl
  exact He.glo_ok X G c
theorem Tx.g_law_overlap (T : Tx w K mg) : mg "_law_overlap" = some (.ref (He.ga K "_law_overlap")) := by
  obtain ⟨h, X, G, c⟩ := T.fc 53 (f := .glo "_law_overlap") rfl
  exact He.glo_ok X G c
theorem Tx.g_law_clash (T : Tx w K mg) : mg "_law_clash" = some (.ref (He.ga K "_law_clash")) := by
  obtain ⟨h, X, G, c⟩ := T.fc 54 (f := .glo "_law_clash") rfl
  exact He.glo_ok X G c
theorem Tx.g_law_is_near (T : Tx w K mg) : mg "_law_is_near" = some (.ref (He.ga K "_law_is_near")) := by
  obtain ⟨h, X, G, c⟩ := T.fc 55 (f := .glo "_law_is_near") rfl
  exact He.glo_ok X G c
theorem Tx.g_law_looked (T : Tx w K mg) : mg "_law_looked" = some (.ref (He.ga K "_law_looked")) := by
  obtain ⟨h, X, G, c⟩ := T.fc 56 (f := .glo "_law_looked") rfl
  exact He.glo_ok X G c
theorem Tx.g_law_shown (T : Tx w K mg) : mg "_law_shown" = some (.ref (He.ga K "_law_shown")) := by
  obtain ⟨h, X, G, c⟩ := T.fc 57 (f := .glo "_law_shown") rfl
  exact He.glo_ok X G c
theorem Tx.g_law_caught (T : Tx w K mg) : mg "_law_caught" = some (.ref (He.ga K "_law_caught")) := by
  obtain ⟨h, X, G, c⟩ := T.fc 58 (f := .glo "_law_caught") rfl
  exact He.glo_ok X G c
theorem Tx.g_law_far (T : Tx w K mg) : mg "_law_far" = some (.ref (He.ga K "_law_far")) := by
  obtain ⟨h, X, G, c⟩ := T.fc 59 (f := .glo "_law_far") rfl
  exact He.glo_ok X G c
theorem Tx.g_law_widest (T : Tx w K mg) : mg "_law_widest" = some (.ref (He.ga K "_law_widest")) := by
  obtain ⟨h, X, G, c⟩ := T.fc 60 (f := .glo "_law_widest") rfl
  exact He.glo_ok X G c
theorem Tx.g_law_ranks (T : Tx w K mg) : mg "_law_ranks" = some (.ref (He.ga K "_law_ranks")) := by
  obtain ⟨h, X, G, c⟩ := T.fc 61 (f := .glo "_law_ranks") rfl
  exact He.glo_ok X G c
theorem Tx.g_law_can_bar (T : Tx w K mg) : mg "_law_can_bar" = some (.ref (He.ga K "_law_can_bar")) := by
  obtain ⟨h, X, G, c⟩ := T.fc 62 (f := .glo "_law_can_bar") rfl
  exact He.glo_ok X G c
theorem Tx.g_law_own (T : Tx w K mg) : mg "_law_own" = some (.ref (He.ga K "_law_own")) := by
  obtain ⟨h, X, G, c⟩ := T.fc 63 (f := .glo "_law_own") rfl
  exact He.glo_ok X G c
theorem Tx.g_law_by (T : Tx w K mg) : mg "_law_by" = some (.ref (He.ga K "_law_by")) := by
  obtain ⟨h, X, G, c⟩ := T.fc 64 (f := .glo "_law_by") rfl
  exact He.glo_ok X G c
theorem Tx.g_law_meets (T : Tx w K mg) : mg "_law_meets" = some (.ref (He.ga K "_law_meets")) := by
  obtain ⟨h, X, G, c⟩ := T.fc 65 (f := .glo "_law_meets") rfl
  exact He.glo_ok X G c
theorem Tx.g_law_tiled (T : Tx w K mg) : mg "_law_tiled" = some (.ref (He.ga K "_law_tiled")) := by
  obtain ⟨h, X, G, c⟩ := T.fc 66 (f := .glo "_law_tiled") rfl
  exact He.glo_ok X G c
theorem Tx.g_law_is_number (T : Tx w K mg) : mg "_law_is_number" = some (.ref (He.ga K "_law_is_number")) := by
  obtain ⟨h, X, G, c⟩ := T.fc 67 (f := .glo "_law_is_number") rfl
  exact He.glo_ok X G c
theorem Tx.g_law_is_title (T : Tx w K mg) : mg "_law_is_title" = some (.ref (He.ga K "_law_is_title")) := by
  obtain ⟨h, X, G, c⟩ := T.fc 68 (f := .glo "_law_is_title") rfl
  exact He.glo_ok X G c
theorem Tx.g_law_is_label (T : Tx w K mg) : mg "_law_is_label" = some (.ref (He.ga K "_law_is_label")) := by
  obtain ⟨h, X, G, c⟩ := T.fc 69 (f := .glo "_law_is_label") rfl
  exact He.glo_ok X G c
theorem Tx.g_law_is_tile (T : Tx w K mg) : mg "_law_is_tile" = some (.ref (He.ga K "_law_is_tile")) := by
  obtain ⟨h, X, G, c⟩ := T.fc 70 (f := .glo "_law_is_tile") rfl
  exact He.glo_ok X G c
theorem Tx.g_law_are_labels (T : Tx w K mg) : mg "_law_are_labels" = some (.ref (He.ga K "_law_are_labels")) := by
  obtain ⟨h, X, G, c⟩ := T.fc 71 (f := .glo "_law_are_labels") rfl
  exact He.glo_ok X G c
theorem Tx.g_law_is_cut (T : Tx w K mg) : mg "_law_is_cut" = some (.ref (He.ga K "_law_is_cut")) := by
  obtain ⟨h, X, G, c⟩ := T.fc 72 (f := .glo "_law_is_cut") rfl
  exact He.glo_ok X G c
theorem Tx.g_law_strip_right (T : Tx w K mg) : mg "_law_strip_right" = some (.ref (He.ga K "_law_strip_right")) := by
  obtain ⟨h, X, G, c⟩ := T.fc 73 (f := .glo "_law_strip_right") rfl
  exact He.glo_ok X G c
theorem Tx.g_law_right (T : Tx w K mg) : mg "_law_right" = some (.ref (He.ga K "_law_right")) := by
  obtain ⟨h, X, G, c⟩ := T.fc 74 (f := .glo "_law_right") rfl
  exact He.glo_ok X G c
theorem Tx.g_law (T : Tx w K mg) : mg "law" = some (.ref (He.ga K "law")) := by
  obtain ⟨h, X, G, c⟩ := T.fc 75 (f := .glo "law") rfl
  exact He.glo_ok X G c
theorem Tx.g_View (T : Tx w K mg) : mg "View" = some (.ref (He.ga K "View")) := by
  obtain ⟨h, X, G, c⟩ := T.fc 76 (f := .glo "View") rfl
  exact He.glo_ok X G c
theorem Tx.g_ClassRow (T : Tx w K mg) : mg "ClassRow" = some (.ref (He.ga K "ClassRow")) := by
  obtain ⟨h, X, G, c⟩ := T.fc 77 (f := .glo "ClassRow") rfl
  exact He.glo_ok X G c
theorem Tx.g_Reader (T : Tx w K mg) : mg "Reader" = some (.ref (He.ga K "Reader")) := by
  obtain ⟨h, X, G, c⟩ := T.fc 78 (f := .glo "Reader") rfl
  exact He.glo_ok X G c
theorem Tx.g_Style (T : Tx w K mg) : mg "Style" = some (.ref (He.ga K "Style")) := by
  obtain ⟨h, X, G, c⟩ := T.fc 79 (f := .glo "Style") rfl
  exact He.glo_ok X G c
theorem Tx.g_LabelError (T : Tx w K mg) : mg "LabelError" = some (.ref (He.ga K "LabelError")) := by
  obtain ⟨h, X, G, c⟩ := T.fc 80 (f := .glo "LabelError") rfl
  exact He.glo_ok X G c
theorem Tx.g_TooMany (T : Tx w K mg) : mg "TooMany" = some (.ref (He.ga K "TooMany")) := by
  obtain ⟨h, X, G, c⟩ := T.fc 81 (f := .glo "TooMany") rfl
  exact He.glo_ok X G c
theorem Tx.b_TypeError (T : Tx w K mg) : mg "TypeError" = none := by
  obtain ⟨h, X, G, c⟩ := T.fc 82 (f := .free "TypeError") rfl
  exact He.free_ok X G c
theorem Tx.b_abs (T : Tx w K mg) : mg "abs" = none := by
  obtain ⟨h, X, G, c⟩ := T.fc 83 (f := .free "abs") rfl
  exact He.free_ok X G c
theorem Tx.b_all (T : Tx w K mg) : mg "all" = none := by
  obtain ⟨h, X, G, c⟩ := T.fc 84 (f := .free "all") rfl
  exact He.free_ok X G c
theorem Tx.b_any (T : Tx w K mg) : mg "any" = none := by
  obtain ⟨h, X, G, c⟩ := T.fc 85 (f := .free "any") rfl
  exact He.free_ok X G c
theorem Tx.b_bool (T : Tx w K mg) : mg "bool" = none := by
  obtain ⟨h, X, G, c⟩ := T.fc 86 (f := .free "bool") rfl
  exact He.free_ok X G c
theorem Tx.b_dict (T : Tx w K mg) : mg "dict" = none := by
  obtain ⟨h, X, G, c⟩ := T.fc 87 (f := .free "dict") rfl
  exact He.free_ok X G c
theorem Tx.b_enumerate (T : Tx w K mg) : mg "enumerate" = none := by
  obtain ⟨h, X, G, c⟩ := T.fc 88 (f := .free "enumerate") rfl
  exact He.free_ok X G c
theorem Tx.b_int (T : Tx w K mg) : mg "int" = none := by
  obtain ⟨h, X, G, c⟩ := T.fc 89 (f := .free "int") rfl
  exact He.free_ok X G c
theorem Tx.b_isinstance (T : Tx w K mg) : mg "isinstance" = none := by
  obtain ⟨h, X, G, c⟩ := T.fc 90 (f := .free "isinstance") rfl
  exact He.free_ok X G c
theorem Tx.b_len (T : Tx w K mg) : mg "len" = none := by
  obtain ⟨h, X, G, c⟩ := T.fc 91 (f := .free "len") rfl
  exact He.free_ok X G c
theorem Tx.b_list (T : Tx w K mg) : mg "list" = none := by
  obtain ⟨h, X, G, c⟩ := T.fc 92 (f := .free "list") rfl
  exact He.free_ok X G c
theorem Tx.b_max (T : Tx w K mg) : mg "max" = none := by
  obtain ⟨h, X, G, c⟩ := T.fc 93 (f := .free "max") rfl
  exact He.free_ok X G c
theorem Tx.b_min (T : Tx w K mg) : mg "min" = none := by
  obtain ⟨h, X, G, c⟩ := T.fc 94 (f := .free "min") rfl
  exact He.free_ok X G c
theorem Tx.b_property (T : Tx w K mg) : mg "property" = none := by
  obtain ⟨h, X, G, c⟩ := T.fc 95 (f := .free "property") rfl
  exact He.free_ok X G c
theorem Tx.b_range (T : Tx w K mg) : mg "range" = none := by
  obtain ⟨h, X, G, c⟩ := T.fc 96 (f := .free "range") rfl
  exact He.free_ok X G c
theorem Tx.b_repr (T : Tx w K mg) : mg "repr" = none := by
  obtain ⟨h, X, G, c⟩ := T.fc 97 (f := .free "repr") rfl
  exact He.free_ok X G c
theorem Tx.b_set (T : Tx w K mg) : mg "set" = none := by
  obtain ⟨h, X, G, c⟩ := T.fc 98 (f := .free "set") rfl
  exact He.free_ok X G c
theorem Tx.b_sorted (T : Tx w K mg) : mg "sorted" = none := by
  obtain ⟨h, X, G, c⟩ := T.fc 99 (f := .free "sorted") rfl
  exact He.free_ok X G c
theorem Tx.b_str (T : Tx w K mg) : mg "str" = none := by
  obtain ⟨h, X, G, c⟩ := T.fc 100 (f := .free "str") rfl
  exact He.free_ok X G c
theorem Tx.b_sum (T : Tx w K mg) : mg "sum" = none := by
  obtain ⟨h, X, G, c⟩ := T.fc 101 (f := .free "sum") rfl
  exact He.free_ok X G c
theorem Tx.b_tuple (T : Tx w K mg) : mg "tuple" = none := by
  obtain ⟨h, X, G, c⟩ := T.fc 102 (f := .free "tuple") rfl
  exact He.free_ok X G c
theorem Tx.b_zip (T : Tx w K mg) : mg "zip" = none := by
  obtain ⟨h, X, G, c⟩ := T.fc 103 (f := .free "zip") rfl
  exact He.free_ok X G c
theorem Tx.c_WIDE (T : Tx w K mg) : ∃ t, mg "WIDE" = some (.int 0 t) := by
  obtain ⟨h, X, G, c⟩ := T.fc 104 (f := .int "WIDE" 0) rfl
  exact He.int_ok X G c
theorem Tx.c_HIGH (T : Tx w K mg) : ∃ t, mg "HIGH" = some (.int 1 t) := by
  obtain ⟨h, X, G, c⟩ := T.fc 105 (f := .int "HIGH" 1) rfl
  exact He.int_ok X G c
theorem Tx.c_LETTERS_words (T : Tx w K mg) : ∃ t, mg "LETTERS_words" = some (.str "abcdefghijklmnopqrstuvwxyz" t) := by
  obtain ⟨h, X, G, c⟩ := T.fc 106 (f := .str "LETTERS_words" "abcdefghijklmnopqrstuvwxyz") rfl
  exact He.str_ok X G c
theorem Tx.c_FIGURES (T : Tx w K mg) : ∃ t, mg "FIGURES" = some (.str "0123456789" t) := by
  obtain ⟨h, X, G, c⟩ := T.fc 107 (f := .str "FIGURES" "0123456789") rfl
  exact He.str_ok X G c
theorem Tx.c_MOST_LETTERS (T : Tx w K mg) : ∃ t, mg "MOST_LETTERS" = some (.int 12 t) := by
  obtain ⟨h, X, G, c⟩ := T.fc 108 (f := .int "MOST_LETTERS" 12) rfl
  exact He.int_ok X G c
theorem Tx.c_ZERO (T : Tx w K mg) : ∃ t, mg "ZERO" = some (.str "0" t) := by
  obtain ⟨h, X, G, c⟩ := T.fc 109 (f := .str "ZERO" "0") rfl
  exact He.str_ok X G c
theorem Tx.c_LABEL_PARTS (T : Tx w K mg) : ∃ t, mg "LABEL_PARTS" = some (.int 6 t) := by
  obtain ⟨h, X, G, c⟩ := T.fc 110 (f := .int "LABEL_PARTS" 6) rfl
  exact He.int_ok X G c
theorem Tx.c_MOST_LABELS (T : Tx w K mg) : ∃ t, mg "MOST_LABELS" = some (.int 30 t) := by
  obtain ⟨h, X, G, c⟩ := T.fc 111 (f := .int "MOST_LABELS" 30) rfl
  exact He.int_ok X G c
theorem Tx.c_MOST_WEIGHT (T : Tx w K mg) : ∃ t, mg "MOST_WEIGHT" = some (.int 9 t) := by
  obtain ⟨h, X, G, c⟩ := T.fc 112 (f := .int "MOST_WEIGHT" 9) rfl
  exact He.int_ok X G c
theorem Tx.c_MOST_PLACE (T : Tx w K mg) : ∃ t, mg "MOST_PLACE" = some (.int 99999 t) := by
  obtain ⟨h, X, G, c⟩ := T.fc 113 (f := .int "MOST_PLACE" 99999) rfl
  exact He.int_ok X G c
theorem Tx.c_NONE (T : Tx w K mg) : ∃ t, mg "NONE" = some (.str "none" t) := by
  obtain ⟨h, X, G, c⟩ := T.fc 114 (f := .str "NONE" "none") rfl
  exact He.str_ok X G c
theorem Tx.c_PAIR (T : Tx w K mg) : ∃ t, mg "PAIR" = some (.int 2 t) := by
  obtain ⟨h, X, G, c⟩ := T.fc 115 (f := .int "PAIR" 2) rfl
  exact He.int_ok X G c
theorem Tx.c_TRIPLE (T : Tx w K mg) : ∃ t, mg "TRIPLE" = some (.int 3 t) := by
  obtain ⟨h, X, G, c⟩ := T.fc 116 (f := .int "TRIPLE" 3) rfl
  exact He.int_ok X G c
theorem Tx.c_STRIP (T : Tx w K mg) : ∃ t, mg "STRIP" = some (.str "strip" t) := by
  obtain ⟨h, X, G, c⟩ := T.fc 117 (f := .str "STRIP" "strip") rfl
  exact He.str_ok X G c
theorem Tx.c_WHOLE (T : Tx w K mg) : ∃ t, mg "WHOLE" = some (.str "whole" t) := by
  obtain ⟨h, X, G, c⟩ := T.fc 118 (f := .str "WHOLE" "whole") rfl
  exact He.str_ok X G c
theorem Tx.c_CUT (T : Tx w K mg) : ∃ t, mg "CUT" = some (.str "cut" t) := by
  obtain ⟨h, X, G, c⟩ := T.fc 119 (f := .str "CUT" "cut") rfl
  exact He.str_ok X G c
theorem Tx.c_MOST_SIDE (T : Tx w K mg) : ∃ t, mg "MOST_SIDE" = some (.int 9999 t) := by
  obtain ⟨h, X, G, c⟩ := T.fc 120 (f := .int "MOST_SIDE" 9999) rfl
  exact He.int_ok X G c
theorem Tx.c_LETTERS_tiles (T : Tx w K mg) : ∃ t, mg "LETTERS_tiles" = some (.str "abcdefghijklmnopqrstuvwxyz" t) := by
  obtain ⟨h, X, G, c⟩ := T.fc 121 (f := .str "LETTERS_tiles" "abcdefghijklmnopqrstuvwxyz") rfl
  exact He.str_ok X G c
theorem Tx.c_ZOOMS (T : Tx w K mg) : ∃ t, mg "ZOOMS" = some (.str "zooms" t) := by
  obtain ⟨h, X, G, c⟩ := T.fc 122 (f := .str "ZOOMS" "zooms") rfl
  exact He.str_ok X G c
theorem Tx.c_CLASS (T : Tx w K mg) : ∃ t, mg "CLASS" = some (.str "class" t) := by
  obtain ⟨h, X, G, c⟩ := T.fc 123 (f := .str "CLASS" "class") rfl
  exact He.str_ok X G c
theorem Tx.c_BESIDE (T : Tx w K mg) : ∃ t, mg "BESIDE" = some (.str "beside" t) := by
  obtain ⟨h, X, G, c⟩ := T.fc 124 (f := .str "BESIDE" "beside") rfl
  exact He.str_ok X G c
theorem Tx.c_FAR (T : Tx w K mg) : ∃ t, mg "FAR" = some (.str "far" t) := by
  obtain ⟨h, X, G, c⟩ := T.fc 125 (f := .str "FAR" "far") rfl
  exact He.str_ok X G c
theorem Tx.c_MOST_ZOOMS (T : Tx w K mg) : ∃ t, mg "MOST_ZOOMS" = some (.int 5 t) := by
  obtain ⟨h, X, G, c⟩ := T.fc 126 (f := .int "MOST_ZOOMS" 5) rfl
  exact He.int_ok X G c
theorem Tx.c_MOST_CLASSES (T : Tx w K mg) : ∃ t, mg "MOST_CLASSES" = some (.int 4 t) := by
  obtain ⟨h, X, G, c⟩ := T.fc 127 (f := .int "MOST_CLASSES" 4) rfl
  exact He.int_ok X G c
theorem Tx.c_LEAST_SIZE (T : Tx w K mg) : ∃ t, mg "LEAST_SIZE" = some (.int 2 t) := by
  obtain ⟨h, X, G, c⟩ := T.fc 128 (f := .int "LEAST_SIZE" 2) rfl
  exact He.int_ok X G c
theorem Tx.c_MOST_SIZE (T : Tx w K mg) : ∃ t, mg "MOST_SIZE" = some (.int 9 t) := by
  obtain ⟨h, X, G, c⟩ := T.fc 129 (f := .int "MOST_SIZE" 9) rfl
  exact He.int_ok X G c
theorem Tx.c_MOST_LEAST (T : Tx w K mg) : ∃ t, mg "MOST_LEAST" = some (.int 9 t) := by
  obtain ⟨h, X, G, c⟩ := T.fc 130 (f := .int "MOST_LEAST" 9) rfl
  exact He.int_ok X G c
theorem Tx.c_MOST_MORE (T : Tx w K mg) : ∃ t, mg "MOST_MORE" = some (.int 3 t) := by
  obtain ⟨h, X, G, c⟩ := T.fc 131 (f := .int "MOST_MORE" 3) rfl
  exact He.int_ok X G c
theorem Tx.c_MOST_FAR (T : Tx w K mg) : ∃ t, mg "MOST_FAR" = some (.int 9999 t) := by
  obtain ⟨h, X, G, c⟩ := T.fc 132 (f := .int "MOST_FAR" 9999) rfl
  exact He.int_ok X G c
theorem Tx.c_ZOOMS_WORDS (T : Tx w K mg) : ∃ t, mg "ZOOMS_WORDS" = some (.int 2 t) := by
  obtain ⟨h, X, G, c⟩ := T.fc 133 (f := .int "ZOOMS_WORDS" 2) rfl
  exact He.int_ok X G c
theorem Tx.c_CLASS_WORDS (T : Tx w K mg) : ∃ t, mg "CLASS_WORDS" = some (.int 6 t) := by
  obtain ⟨h, X, G, c⟩ := T.fc 134 (f := .int "CLASS_WORDS" 6) rfl
  exact He.int_ok X G c
theorem Tx.c_BESIDE_WORDS (T : Tx w K mg) : ∃ t, mg "BESIDE_WORDS" = some (.int 3 t) := by
  obtain ⟨h, X, G, c⟩ := T.fc 135 (f := .int "BESIDE_WORDS" 3) rfl
  exact He.int_ok X G c
theorem Tx.c_FAR_WORDS (T : Tx w K mg) : ∃ t, mg "FAR_WORDS" = some (.int 4 t) := by
  obtain ⟨h, X, G, c⟩ := T.fc 136 (f := .int "FAR_WORDS" 4) rfl
  exact He.int_ok X G c
theorem Tx.c_SIZES_AT (T : Tx w K mg) : ∃ t, mg "SIZES_AT" = some (.int 5 t) := by
  obtain ⟨h, X, G, c⟩ := T.fc 137 (f := .int "SIZES_AT" 5) rfl
  exact He.int_ok X G c
theorem Tx.cl_View (T : Tx w K mg) : Cls K (He.ga K "View") := by
  obtain ⟨h, X, G, c⟩ := T.fc 138 (f := .cls "View") rfl
  exact He.cls_ok c
theorem Tx.mk_View (T : Tx w K mg) : Mk K (He.ga K "View") (He.ma K (He.ga K "View") "__init__") := by
  obtain ⟨h, X, G, c⟩ := T.fc 139 (f := .mkr "View") rfl
  exact He.mkr_ok c
theorem Tx.na_View_own_style (T : Tx w K mg) : NoAttr K (He.ga K "View") "own_style" := by
  obtain ⟨h, X, G, c⟩ := T.fc 140 (f := .noat "View" "own_style") rfl
  exact He.noat_ok c
theorem Tx.na_View_own_zoom (T : Tx w K mg) : NoAttr K (He.ga K "View") "own_zoom" := by
  obtain ⟨h, X, G, c⟩ := T.fc 141 (f := .noat "View" "own_zoom") rfl
  exact He.noat_ok c
theorem Tx.na_View_own_pixel (T : Tx w K mg) : NoAttr K (He.ga K "View") "own_pixel" := by
  obtain ⟨h, X, G, c⟩ := T.fc 142 (f := .noat "View" "own_pixel") rfl
  exact He.noat_ok c
theorem Tx.na_View_own_sizes (T : Tx w K mg) : NoAttr K (He.ga K "View") "own_sizes" := by
  obtain ⟨h, X, G, c⟩ := T.fc 143 (f := .noat "View" "own_sizes") rfl
  exact He.noat_ok c
theorem Tx.me_View_is_there (T : Tx w K mg) : Meth K (He.ga K "View") "is_there" (He.ma K (He.ga K "View") "is_there") := by
  obtain ⟨h, X, G, c⟩ := T.fc 144 (f := .meth "View" "is_there") rfl
  exact He.meth_ok c
theorem Tx.me_View_ranks (T : Tx w K mg) : Meth K (He.ga K "View") "ranks" (He.ma K (He.ga K "View") "ranks") := by
  obtain ⟨h, X, G, c⟩ := T.fc 145 (f := .meth "View" "ranks") rfl
  exact He.meth_ok c
theorem Tx.me_View_half_height (T : Tx w K mg) : Meth K (He.ga K "View") "half_height" (He.ma K (He.ga K "View") "half_height") := by
  obtain ⟨h, X, G, c⟩ := T.fc 146 (f := .meth "View" "half_height") rfl
  exact He.meth_ok c
theorem Tx.me_View_half_width (T : Tx w K mg) : Meth K (He.ga K "View") "half_width" (He.ma K (He.ga K "View") "half_width") := by
  obtain ⟨h, X, G, c⟩ := T.fc 147 (f := .meth "View" "half_width") rfl
  exact He.meth_ok c
theorem Tx.me_View_greatest (T : Tx w K mg) : Meth K (He.ga K "View") "greatest" (He.ma K (He.ga K "View") "greatest") := by
  obtain ⟨h, X, G, c⟩ := T.fc 148 (f := .meth "View" "greatest") rfl
  exact He.meth_ok c
theorem Tx.me_View_broadest (T : Tx w K mg) : Meth K (He.ga K "View") "broadest" (He.ma K (He.ga K "View") "broadest") := by
  obtain ⟨h, X, G, c⟩ := T.fc 149 (f := .meth "View" "broadest") rfl
  exact He.meth_ok c
theorem Tx.me_View_can_overlap (T : Tx w K mg) : Meth K (He.ga K "View") "can_overlap" (He.ma K (He.ga K "View") "can_overlap") := by
  obtain ⟨h, X, G, c⟩ := T.fc 150 (f := .meth "View" "can_overlap") rfl
  exact He.meth_ok c
theorem Tx.me_View_can_clash (T : Tx w K mg) : Meth K (He.ga K "View") "can_clash" (He.ma K (He.ga K "View") "can_clash") := by
  obtain ⟨h, X, G, c⟩ := T.fc 151 (f := .meth "View" "can_clash") rfl
  exact He.meth_ok c
theorem Tx.me_View_box (T : Tx w K mg) : Meth K (He.ga K "View") "box" (He.ma K (He.ga K "View") "box") := by
  obtain ⟨h, X, G, c⟩ := T.fc 152 (f := .meth "View" "box") rfl
  exact He.meth_ok c
theorem Tx.me_View_do_overlap (T : Tx w K mg) : Meth K (He.ga K "View") "do_overlap" (He.ma K (He.ga K "View") "do_overlap") := by
  obtain ⟨h, X, G, c⟩ := T.fc 153 (f := .meth "View" "do_overlap") rfl
  exact He.meth_ok c
theorem Tx.me_View_do_clash (T : Tx w K mg) : Meth K (He.ga K "View") "do_clash" (He.ma K (He.ga K "View") "do_clash") := by
  obtain ⟨h, X, G, c⟩ := T.fc 154 (f := .meth "View" "do_clash") rfl
  exact He.meth_ok c
theorem Tx.cl_ClassRow (T : Tx w K mg) : Cls K (He.ga K "ClassRow") := by
  obtain ⟨h, X, G, c⟩ := T.fc 155 (f := .cls "ClassRow") rfl
  exact He.cls_ok c
theorem Tx.mk_ClassRow (T : Tx w K mg) : Mk K (He.ga K "ClassRow") (He.ma K (He.ga K "ClassRow") "__init__") := by
  obtain ⟨h, X, G, c⟩ := T.fc 156 (f := .mkr "ClassRow") rfl
  exact He.mkr_ok c
theorem Tx.na_ClassRow_own_name (T : Tx w K mg) : NoAttr K (He.ga K "ClassRow") "own_name" := by
  obtain ⟨h, X, G, c⟩ := T.fc 157 (f := .noat "ClassRow" "own_name") rfl
  exact He.noat_ok c
theorem Tx.na_ClassRow_own_first (T : Tx w K mg) : NoAttr K (He.ga K "ClassRow") "own_first" := by
  obtain ⟨h, X, G, c⟩ := T.fc 158 (f := .noat "ClassRow" "own_first") rfl
  exact He.noat_ok c
theorem Tx.na_ClassRow_own_letters (T : Tx w K mg) : NoAttr K (He.ga K "ClassRow") "own_letters" := by
  obtain ⟨h, X, G, c⟩ := T.fc 159 (f := .noat "ClassRow" "own_letters") rfl
  exact He.noat_ok c
theorem Tx.na_ClassRow_own_sizes (T : Tx w K mg) : NoAttr K (He.ga K "ClassRow") "own_sizes" := by
  obtain ⟨h, X, G, c⟩ := T.fc 160 (f := .noat "ClassRow" "own_sizes") rfl
  exact He.noat_ok c
theorem Tx.me_ClassRow_size_at (T : Tx w K mg) : Meth K (He.ga K "ClassRow") "size_at" (He.ma K (He.ga K "ClassRow") "size_at") := by
  obtain ⟨h, X, G, c⟩ := T.fc 161 (f := .meth "ClassRow" "size_at") rfl
  exact He.meth_ok c
theorem Tx.cl_Reader (T : Tx w K mg) : Cls K (He.ga K "Reader") := by
  obtain ⟨h, X, G, c⟩ := T.fc 162 (f := .cls "Reader") rfl
  exact He.cls_ok c
theorem Tx.mk_Reader (T : Tx w K mg) : Mk K (He.ga K "Reader") (He.ma K (He.ga K "Reader") "__init__") := by
  obtain ⟨h, X, G, c⟩ := T.fc 163 (f := .mkr "Reader") rfl
  exact He.mkr_ok c
theorem Tx.na_Reader_own_sort (T : Tx w K mg) : NoAttr K (He.ga K "Reader") "own_sort" := by
  obtain ⟨h, X, G, c⟩ := T.fc 164 (f := .noat "Reader" "own_sort") rfl
  exact He.noat_ok c
theorem Tx.na_Reader_own_last (T : Tx w K mg) : NoAttr K (He.ga K "Reader") "own_last" := by
  obtain ⟨h, X, G, c⟩ := T.fc 165 (f := .noat "Reader" "own_last") rfl
  exact He.noat_ok c
theorem Tx.na_Reader_own_rows (T : Tx w K mg) : NoAttr K (He.ga K "Reader") "own_rows" := by
  obtain ⟨h, X, G, c⟩ := T.fc 166 (f := .noat "Reader" "own_rows") rfl
  exact He.noat_ok c
theorem Tx.na_Reader_own_beside (T : Tx w K mg) : NoAttr K (He.ga K "Reader") "own_beside" := by
  obtain ⟨h, X, G, c⟩ := T.fc 167 (f := .noat "Reader" "own_beside") rfl
  exact He.noat_ok c
theorem Tx.na_Reader_own_far (T : Tx w K mg) : NoAttr K (He.ga K "Reader") "own_far" := by
  obtain ⟨h, X, G, c⟩ := T.fc 168 (f := .noat "Reader" "own_far") rfl
  exact He.noat_ok c
theorem Tx.me_Reader_pair_of (T : Tx w K mg) : Meth K (He.ga K "Reader") "pair_of" (He.ma K (He.ga K "Reader") "pair_of") := by
  obtain ⟨h, X, G, c⟩ := T.fc 169 (f := .meth "Reader" "pair_of") rfl
  exact He.meth_ok c
theorem Tx.me_Reader_take (T : Tx w K mg) : Meth K (He.ga K "Reader") "take" (He.ma K (He.ga K "Reader") "take") := by
  obtain ⟨h, X, G, c⟩ := T.fc 170 (f := .meth "Reader" "take") rfl
  exact He.meth_ok c
theorem Tx.me_Reader_take_zooms (T : Tx w K mg) : Meth K (He.ga K "Reader") "take_zooms" (He.ma K (He.ga K "Reader") "take_zooms") := by
  obtain ⟨h, X, G, c⟩ := T.fc 171 (f := .meth "Reader" "take_zooms") rfl
  exact He.meth_ok c
theorem Tx.me_Reader_take_class (T : Tx w K mg) : Meth K (He.ga K "Reader") "take_class" (He.ma K (He.ga K "Reader") "take_class") := by
  obtain ⟨h, X, G, c⟩ := T.fc 172 (f := .meth "Reader" "take_class") rfl
  exact He.meth_ok c
theorem Tx.me_Reader_take_beside (T : Tx w K mg) : Meth K (He.ga K "Reader") "take_beside" (He.ma K (He.ga K "Reader") "take_beside") := by
  obtain ⟨h, X, G, c⟩ := T.fc 173 (f := .meth "Reader" "take_beside") rfl
  exact He.meth_ok c
theorem Tx.me_Reader_take_far (T : Tx w K mg) : Meth K (He.ga K "Reader") "take_far" (He.ma K (He.ga K "Reader") "take_far") := by
  obtain ⟨h, X, G, c⟩ := T.fc 174 (f := .meth "Reader" "take_far") rfl
  exact He.meth_ok c
theorem Tx.cl_Style (T : Tx w K mg) : Cls K (He.ga K "Style") := by
  obtain ⟨h, X, G, c⟩ := T.fc 175 (f := .cls "Style") rfl
  exact He.cls_ok c
theorem Tx.mk_Style (T : Tx w K mg) : Mk K (He.ga K "Style") (He.ma K (He.ga K "Style") "__init__") := by
  obtain ⟨h, X, G, c⟩ := T.fc 176 (f := .mkr "Style") rfl
  exact He.mkr_ok c
theorem Tx.na_Style_own_text (T : Tx w K mg) : NoAttr K (He.ga K "Style") "own_text" := by
  obtain ⟨h, X, G, c⟩ := T.fc 177 (f := .noat "Style" "own_text") rfl
  exact He.noat_ok c
theorem Tx.na_Style_own_last (T : Tx w K mg) : NoAttr K (He.ga K "Style") "own_last" := by
  obtain ⟨h, X, G, c⟩ := T.fc 178 (f := .noat "Style" "own_last") rfl
  exact He.noat_ok c
theorem Tx.na_Style_own_rows (T : Tx w K mg) : NoAttr K (He.ga K "Style") "own_rows" := by
  obtain ⟨h, X, G, c⟩ := T.fc 179 (f := .noat "Style" "own_rows") rfl
  exact He.noat_ok c
theorem Tx.na_Style_own_ranks (T : Tx w K mg) : NoAttr K (He.ga K "Style") "own_ranks" := by
  obtain ⟨h, X, G, c⟩ := T.fc 180 (f := .noat "Style" "own_ranks") rfl
  exact He.noat_ok c
theorem Tx.na_Style_own_beside (T : Tx w K mg) : NoAttr K (He.ga K "Style") "own_beside" := by
  obtain ⟨h, X, G, c⟩ := T.fc 181 (f := .noat "Style" "own_beside") rfl
  exact He.noat_ok c
theorem Tx.na_Style_own_far (T : Tx w K mg) : NoAttr K (He.ga K "Style") "own_far" := by
  obtain ⟨h, X, G, c⟩ := T.fc 182 (f := .noat "Style" "own_far") rfl
  exact He.noat_ok c
theorem Tx.me_Style_check_zoom (T : Tx w K mg) : Meth K (He.ga K "Style") "check_zoom" (He.ma K (He.ga K "Style") "check_zoom") := by
  obtain ⟨h, X, G, c⟩ := T.fc 183 (f := .meth "Style" "check_zoom") rfl
  exact He.meth_ok c
theorem Tx.me_Style_do_compete (T : Tx w K mg) : Meth K (He.ga K "Style") "do_compete" (He.ma K (He.ga K "Style") "do_compete") := by
  obtain ⟨h, X, G, c⟩ := T.fc 184 (f := .meth "Style" "do_compete") rfl
  exact He.meth_ok c
theorem Tx.me_Style_distance (T : Tx w K mg) : Meth K (He.ga K "Style") "distance" (He.ma K (He.ga K "Style") "distance") := by
  obtain ⟨h, X, G, c⟩ := T.fc 185 (f := .meth "Style" "distance") rfl
  exact He.meth_ok c
theorem Tx.f_endless (T : Tx w K mg) : ∃ fd, FunD K "endless" "endless" (defArgs s_endless) (defBody s_endless) (defScope s_endless) [] [] (He.fAd K ("endless", none)) fd := T.df 0 (d := d_endless) rfl
theorem Tx.f_stride_of (T : Tx w K mg) : ∃ fd, FunD K "stride_of" "stride_of" (defArgs s_stride_of) (defBody s_stride_of) (defScope s_stride_of) [] [] (He.fAd K ("stride_of", none)) fd := T.df 1 (d := d_stride_of) rfl
theorem Tx.f_span (T : Tx w K mg) : ∃ fd, FunD K "span" "span" (defArgs s_span) (defBody s_span) (defScope s_span) [] [] (He.fAd K ("span", none)) fd := T.df 2 (d := d_span) rfl
theorem Tx.f_is_integer (T : Tx w K mg) : ∃ fd, FunD K "is_integer" "is_integer" (defArgs s_is_integer) (defBody s_is_integer) (defScope s_is_integer) [] [] (He.fAd K ("is_integer", none)) fd := T.df 3 (d := d_is_integer) rfl
theorem Tx.f_is_between (T : Tx w K mg) : ∃ fd, FunD K "is_between" "is_between" (defArgs s_is_between) (defBody s_is_between) (defScope s_is_between) [] [] (He.fAd K ("is_between", none)) fd := T.df 4 (d := d_is_between) rfl
theorem Tx.f_is_tuple (T : Tx w K mg) : ∃ fd, FunD K "is_tuple" "is_tuple" (defArgs s_is_tuple) (defBody s_is_tuple) (defScope s_is_tuple) [] [] (He.fAd K ("is_tuple", none)) fd := T.df 5 (d := d_is_tuple) rfl
theorem Tx.f_is_name (T : Tx w K mg) : ∃ fd, FunD K "is_name" "is_name" (defArgs s_is_name) (defBody s_is_name) (defScope s_is_name) [] [] (He.fAd K ("is_name", none)) fd := T.df 6 (d := d_is_name) rfl
theorem Tx.f_is_word (T : Tx w K mg) : ∃ fd, FunD K "is_word" "is_word" (defArgs s_is_word) (defBody s_is_word) (defScope s_is_word) [] [] (He.fAd K ("is_word", none)) fd := T.df 7 (d := d_is_word) rfl
theorem Tx.f_whole_in (T : Tx w K mg) : ∃ fd, FunD K "whole_in" "whole_in" (defArgs s_whole_in) (defBody s_whole_in) (defScope s_whole_in) [] [] (He.fAd K ("whole_in", none)) fd := T.df 8 (d := d_whole_in) rfl
theorem Tx.f_is_place (T : Tx w K mg) : ∃ fd, FunD K "is_place" "is_place" (defArgs s_is_place) (defBody s_is_place) (defScope s_is_place) [] [] (He.fAd K ("is_place", none)) fd := T.df 9 (d := d_is_place) rfl
theorem Tx.f_is_weight (T : Tx w K mg) : ∃ fd, FunD K "is_weight" "is_weight" (defArgs s_is_weight) (defBody s_is_weight) (defScope s_is_weight) [] [] (He.fAd K ("is_weight", none)) fd := T.df 10 (d := d_is_weight) rfl
theorem Tx.f_is_label (T : Tx w K mg) : ∃ fd, FunD K "is_label" "is_label" (defArgs s_is_label) (defBody s_is_label) (defScope s_is_label) [] [] (He.fAd K ("is_label", none)) fd := T.df 11 (d := d_is_label) rfl
theorem Tx.f_order_key (T : Tx w K mg) : ∃ fd, FunD K "order_key" "order_key" (defArgs s_order_key) (defBody s_order_key) (defScope s_order_key) [] [] (He.fAd K ("order_key", none)) fd := T.df 12 (d := d_order_key) rfl
theorem Tx.f_in_order (T : Tx w K mg) : ∃ fd, FunD K "in_order" "in_order" (defArgs s_in_order) (defBody s_in_order) (defScope s_in_order) [] [] (He.fAd K ("in_order", none)) fd := T.df 13 (d := d_in_order) rfl
theorem Tx.f_gap_between (T : Tx w K mg) : ∃ fd, FunD K "gap_between" "gap_between" (defArgs s_gap_between) (defBody s_gap_between) (defScope s_gap_between) [] [] (He.fAd K ("gap_between", none)) fd := T.df 14 (d := d_gap_between) rfl
theorem Tx.f_can_stand (T : Tx w K mg) : ∃ fd, FunD K "can_stand" "can_stand" (defArgs s_can_stand) (defBody s_can_stand) (defScope s_can_stand) [] [] (He.fAd K ("can_stand", none)) fd := T.df 15 (d := d_can_stand) rfl
theorem Tx.f_first_bad (T : Tx w K mg) : ∃ fd, FunD K "first_bad" "first_bad" (defArgs s_first_bad) (defBody s_first_bad) (defScope s_first_bad) [] [] (He.fAd K ("first_bad", none)) fd := T.df 16 (d := d_first_bad) rfl
theorem Tx.f_are_labels (T : Tx w K mg) : ∃ fd, FunD K "are_labels" "are_labels" (defArgs s_are_labels) (defBody s_are_labels) (defScope s_are_labels) [] [] (He.fAd K ("are_labels", none)) fd := T.df 17 (d := d_are_labels) rfl
theorem Tx.f_looked (T : Tx w K mg) : ∃ fd, FunD K "looked" "looked" (defArgs s_looked) (defBody s_looked) (defScope s_looked) [] [] (He.fAd K ("looked", none)) fd := T.df 18 (d := d_looked) rfl
theorem Tx.f_is_tile (T : Tx w K mg) : ∃ fd, FunD K "is_tile" "is_tile" (defArgs s_is_tile) (defBody s_is_tile) (defScope s_is_tile) [] [] (He.fAd K ("is_tile", none)) fd := T.df 19 (d := d_is_tile) rfl
theorem Tx.f_is_side (T : Tx w K mg) : ∃ fd, FunD K "is_side" "is_side" (defArgs s_is_side) (defBody s_is_side) (defScope s_is_side) [] [] (He.fAd K ("is_side", none)) fd := T.df 20 (d := d_is_side) rfl
theorem Tx.f_check_strip (T : Tx w K mg) : ∃ fd, FunD K "check_strip" "check_strip" (defArgs s_check_strip) (defBody s_check_strip) (defScope s_check_strip) [] [] (He.fAd K ("check_strip", none)) fd := T.df 21 (d := d_check_strip) rfl
theorem Tx.f_lies_by (T : Tx w K mg) : ∃ fd, FunD K "lies_by" "lies_by" (defArgs s_lies_by) (defBody s_lies_by) (defScope s_lies_by) [] [] (He.fAd K ("lies_by", none)) fd := T.df 22 (d := d_lies_by) rfl
theorem Tx.f_meets (T : Tx w K mg) : ∃ fd, FunD K "meets" "meets" (defArgs s_meets) (defBody s_meets) (defScope s_meets) [] [] (He.fAd K ("meets", none)) fd := T.df 23 (d := d_meets) rfl
theorem Tx.f_labels_told (T : Tx w K mg) : ∃ fd, FunD K "labels_told" "labels_told" (defArgs s_labels_told) (defBody s_labels_told) (defScope s_labels_told) [] [] (He.fAd K ("labels_told", none)) fd := T.df 24 (d := d_labels_told) rfl
theorem Tx.f_strip_of (T : Tx w K mg) : ∃ fd, FunD K "strip_of" "strip_of" (defArgs s_strip_of) (defBody s_strip_of) (defScope s_strip_of) [] [] (He.fAd K ("strip_of", none)) fd := T.df 25 (d := d_strip_of) rfl
theorem Tx.f_least_strip (T : Tx w K mg) : ∃ fd, FunD K "least_strip" "least_strip" (defArgs s_least_strip) (defBody s_least_strip) (defScope s_least_strip) [] [] (He.fAd K ("least_strip", none)) fd := T.df 26 (d := d_least_strip) rfl
theorem Tx.f_row_beyond (T : Tx w K mg) : ∃ fd, FunD K "row_beyond" "row_beyond" (defArgs s_row_beyond) (defBody s_row_beyond) (defScope s_row_beyond) [] [] (He.fAd K ("row_beyond", none)) fd := T.df 27 (d := d_row_beyond) rfl
theorem Tx.f_labels_of (T : Tx w K mg) : ∃ fd, FunD K "labels_of" "labels_of" (defArgs s_labels_of) (defBody s_labels_of) (defScope s_labels_of) [] [] (He.fAd K ("labels_of", none)) fd := T.df 28 (d := d_labels_of) rfl
theorem Tx.f_cut (T : Tx w K mg) : ∃ fd, FunD K "cut" "cut" (defArgs s_cut) (defBody s_cut) (defScope s_cut) [] [] (He.fAd K ("cut", none)) fd := T.df 29 (d := d_cut) rfl
theorem Tx.f_shows_cut (T : Tx w K mg) : ∃ fd, FunD K "shows_cut" "shows_cut" (defArgs s_shows_cut) (defBody s_shows_cut) (defScope s_shows_cut) [] [] (He.fAd K ("shows_cut", none)) fd := T.df 30 (d := d_shows_cut) rfl
theorem Tx.f_are_sizes (T : Tx w K mg) : ∃ fd, FunD K "are_sizes" "are_sizes" (defArgs s_are_sizes) (defBody s_are_sizes) (defScope s_are_sizes) [] [] (He.fAd K ("are_sizes", none)) fd := T.df 31 (d := d_are_sizes) rfl
theorem Tx.f_class_row (T : Tx w K mg) : ∃ fd, FunD K "class_row" "class_row" (defArgs s_class_row) (defBody s_class_row) (defScope s_class_row) [] [] (He.fAd K ("class_row", none)) fd := T.df 32 (d := d_class_row) rfl
theorem Tx.f_read_style (T : Tx w K mg) : ∃ fd, FunD K "read_style" "read_style" (defArgs s_read_style) (defBody s_read_style) (defScope s_read_style) [] [] (He.fAd K ("read_style", none)) fd := T.df 33 (d := d_read_style) rfl
theorem Tx.f_rank_pair (T : Tx w K mg) : ∃ fd, FunD K "rank_pair" "rank_pair" (defArgs s_rank_pair) (defBody s_rank_pair) (defScope s_rank_pair) [] [] (He.fAd K ("rank_pair", none)) fd := T.df 34 (d := d_rank_pair) rfl
theorem Tx.f_law_pot (T : Tx w K mg) : ∃ fd, FunD K "_law_pot" "_law_pot" (defArgs s_law_pot) (defBody s_law_pot) (defScope s_law_pot) [] [] (He.fAd K ("_law_pot", none)) fd := T.df 35 (d := d_law_pot) rfl
theorem Tx.f_law_take (T : Tx w K mg) : ∃ fd, FunD K "_law_take" "_law_take" (defArgs s_law_take) (defBody s_law_take) (defScope s_law_take) [] [] (He.fAd K ("_law_take", none)) fd := T.df 36 (d := d_law_take) rfl
theorem Tx.f_law_of (T : Tx w K mg) : ∃ fd, FunD K "_law_of" "_law_of" (defArgs s_law_of) (defBody s_law_of) (defScope s_law_of) [] [] (He.fAd K ("_law_of", none)) fd := T.df 37 (d := d_law_of) rfl
theorem Tx.f_law_name (T : Tx w K mg) : ∃ fd, FunD K "_law_name" "_law_name" (defArgs s_law_name) (defBody s_law_name) (defScope s_law_name) [] [] (He.fAd K ("_law_name", none)) fd := T.df 38 (d := d_law_name) rfl
theorem Tx.f_law_sizes (T : Tx w K mg) : ∃ fd, FunD K "_law_sizes" "_law_sizes" (defArgs s_law_sizes) (defBody s_law_sizes) (defScope s_law_sizes) [] [] (He.fAd K ("_law_sizes", none)) fd := T.df 39 (d := d_law_sizes) rfl
theorem Tx.f_law_classes (T : Tx w K mg) : ∃ fd, FunD K "_law_classes" "_law_classes" (defArgs s_law_classes) (defBody s_law_classes) (defScope s_law_classes) [] [] (He.fAd K ("_law_classes", none)) fd := T.df 40 (d := d_law_classes) rfl
theorem Tx.f_law_pairs (T : Tx w K mg) : ∃ fd, FunD K "_law_pairs" "_law_pairs" (defArgs s_law_pairs) (defBody s_law_pairs) (defScope s_law_pairs) [] [] (He.fAd K ("_law_pairs", none)) fd := T.df 41 (d := d_law_pairs) rfl
theorem Tx.f_law_is_there (T : Tx w K mg) : ∃ fd, FunD K "_law_is_there" "_law_is_there" (defArgs s_law_is_there) (defBody s_law_is_there) (defScope s_law_is_there) [] [] (He.fAd K ("_law_is_there", none)) fd := T.df 42 (d := d_law_is_there) rfl
theorem Tx.f_law_pixel (T : Tx w K mg) : ∃ fd, FunD K "_law_pixel" "_law_pixel" (defArgs s_law_pixel) (defBody s_law_pixel) (defScope s_law_pixel) [] [] (He.fAd K ("_law_pixel", none)) fd := T.df 43 (d := d_law_pixel) rfl
theorem Tx.f_law_half (T : Tx w K mg) : ∃ fd, FunD K "_law_half" "_law_half" (defArgs s_law_half) (defBody s_law_half) (defScope s_law_half) [] [] (He.fAd K ("_law_half", none)) fd := T.df 44 (d := d_law_half) rfl
theorem Tx.f_law_distance (T : Tx w K mg) : ∃ fd, FunD K "_law_distance" "_law_distance" (defArgs s_law_distance) (defBody s_law_distance) (defScope s_law_distance) [] [] (He.fAd K ("_law_distance", none)) fd := T.df 45 (d := d_law_distance) rfl
theorem Tx.f_law_lore (T : Tx w K mg) : ∃ fd, FunD K "_law_lore" "_law_lore" (defArgs s_law_lore) (defBody s_law_lore) (defScope s_law_lore) [] [] (He.fAd K ("_law_lore", none)) fd := T.df 46 (d := d_law_lore) rfl
theorem Tx.f_law_text (T : Tx w K mg) : ∃ fd, FunD K "_law_text" "_law_text" (defArgs s_law_text) (defBody s_law_text) (defScope s_law_text) [] [] (He.fAd K ("_law_text", none)) fd := T.df 47 (d := d_law_text) rfl
theorem Tx.f_law_pair (T : Tx w K mg) : ∃ fd, FunD K "_law_pair" "_law_pair" (defArgs s_law_pair) (defBody s_law_pair) (defScope s_law_pair) [] [] (He.fAd K ("_law_pair", none)) fd := T.df 48 (d := d_law_pair) rfl
theorem Tx.f_law_rank (T : Tx w K mg) : ∃ fd, FunD K "_law_rank" "_law_rank" (defArgs s_law_rank) (defBody s_law_rank) (defScope s_law_rank) [] [] (He.fAd K ("_law_rank", none)) fd := T.df 49 (d := d_law_rank) rfl
theorem Tx.f_law_ordered (T : Tx w K mg) : ∃ fd, FunD K "_law_ordered" "_law_ordered" (defArgs s_law_ordered) (defBody s_law_ordered) (defScope s_law_ordered) [] [] (He.fAd K ("_law_ordered", none)) fd := T.df 50 (d := d_law_ordered) rfl
theorem Tx.f_law_box (T : Tx w K mg) : ∃ fd, FunD K "_law_box" "_law_box" (defArgs s_law_box) (defBody s_law_box) (defScope s_law_box) [] [] (He.fAd K ("_law_box", none)) fd := T.df 51 (d := d_law_box) rfl
theorem Tx.f_law_apart (T : Tx w K mg) : ∃ fd, FunD K "_law_apart" "_law_apart" (defArgs s_law_apart) (defBody s_law_apart) (defScope s_law_apart) [] [] (He.fAd K ("_law_apart", none)) fd := T.df 52 (d := d_law_apart) rfl
theorem Tx.f_law_overlap (T : Tx w K mg) : ∃ fd, FunD K "_law_overlap" "_law_overlap" (defArgs s_law_overlap) (defBody s_law_overlap) (defScope s_law_overlap) [] [] (He.fAd K ("_law_overlap", none)) fd := T.df 53 (d := d_law_overlap) rfl
theorem Tx.f_law_clash (T : Tx w K mg) : ∃ fd, FunD K "_law_clash" "_law_clash" (defArgs s_law_clash) (defBody s_law_clash) (defScope s_law_clash) [] [] (He.fAd K ("_law_clash", none)) fd := T.df 54 (d := d_law_clash) rfl
theorem Tx.f_law_is_near (T : Tx w K mg) : ∃ fd, FunD K "_law_is_near" "_law_is_near" (defArgs s_law_is_near) (defBody s_law_is_near) (defScope s_law_is_near) [] [] (He.fAd K ("_law_is_near", none)) fd := T.df 55 (d := d_law_is_near) rfl
theorem Tx.f_law_looked (T : Tx w K mg) : ∃ fd, FunD K "_law_looked" "_law_looked" (defArgs s_law_looked) (defBody s_law_looked) (defScope s_law_looked) [] [] (He.fAd K ("_law_looked", none)) fd := T.df 56 (d := d_law_looked) rfl
theorem Tx.f_law_shown (T : Tx w K mg) : ∃ fd, FunD K "_law_shown" "_law_shown" (defArgs s_law_shown) (defBody s_law_shown) (defScope s_law_shown) [] [] (He.fAd K ("_law_shown", none)) fd := T.df 57 (d := d_law_shown) rfl
theorem Tx.f_law_caught (T : Tx w K mg) : ∃ fd, FunD K "_law_caught" "_law_caught" (defArgs s_law_caught) (defBody s_law_caught) (defScope s_law_caught) [] [] (He.fAd K ("_law_caught", none)) fd := T.df 58 (d := d_law_caught) rfl
theorem Tx.f_law_far (T : Tx w K mg) : ∃ fd, FunD K "_law_far" "_law_far" (defArgs s_law_far) (defBody s_law_far) (defScope s_law_far) [] [] (He.fAd K ("_law_far", none)) fd := T.df 59 (d := d_law_far) rfl
theorem Tx.f_law_widest (T : Tx w K mg) : ∃ fd, FunD K "_law_widest" "_law_widest" (defArgs s_law_widest) (defBody s_law_widest) (defScope s_law_widest) [] [] (He.fAd K ("_law_widest", none)) fd := T.df 60 (d := d_law_widest) rfl
theorem Tx.f_law_ranks (T : Tx w K mg) : ∃ fd, FunD K "_law_ranks" "_law_ranks" (defArgs s_law_ranks) (defBody s_law_ranks) (defScope s_law_ranks) [] [] (He.fAd K ("_law_ranks", none)) fd := T.df 61 (d := d_law_ranks) rfl
theorem Tx.f_law_can_bar (T : Tx w K mg) : ∃ fd, FunD K "_law_can_bar" "_law_can_bar" (defArgs s_law_can_bar) (defBody s_law_can_bar) (defScope s_law_can_bar) [] [] (He.fAd K ("_law_can_bar", none)) fd := T.df 62 (d := d_law_can_bar) rfl
theorem Tx.f_law_own (T : Tx w K mg) : ∃ fd, FunD K "_law_own" "_law_own" (defArgs s_law_own) (defBody s_law_own) (defScope s_law_own) [] [] (He.fAd K ("_law_own", none)) fd := T.df 63 (d := d_law_own) rfl
theorem Tx.f_law_by (T : Tx w K mg) : ∃ fd, FunD K "_law_by" "_law_by" (defArgs s_law_by) (defBody s_law_by) (defScope s_law_by) [] [] (He.fAd K ("_law_by", none)) fd := T.df 64 (d := d_law_by) rfl
theorem Tx.f_law_meets (T : Tx w K mg) : ∃ fd, FunD K "_law_meets" "_law_meets" (defArgs s_law_meets) (defBody s_law_meets) (defScope s_law_meets) [] [] (He.fAd K ("_law_meets", none)) fd := T.df 65 (d := d_law_meets) rfl
theorem Tx.f_law_tiled (T : Tx w K mg) : ∃ fd, FunD K "_law_tiled" "_law_tiled" (defArgs s_law_tiled) (defBody s_law_tiled) (defScope s_law_tiled) [] [] (He.fAd K ("_law_tiled", none)) fd := T.df 66 (d := d_law_tiled) rfl
theorem Tx.f_law_is_number (T : Tx w K mg) : ∃ fd, FunD K "_law_is_number" "_law_is_number" (defArgs s_law_is_number) (defBody s_law_is_number) (defScope s_law_is_number) [] [] (He.fAd K ("_law_is_number", none)) fd := T.df 67 (d := d_law_is_number) rfl
theorem Tx.f_law_is_title (T : Tx w K mg) : ∃ fd, FunD K "_law_is_title" "_law_is_title" (defArgs s_law_is_title) (defBody s_law_is_title) (defScope s_law_is_title) [] [] (He.fAd K ("_law_is_title", none)) fd := T.df 68 (d := d_law_is_title) rfl
theorem Tx.f_law_is_label (T : Tx w K mg) : ∃ fd, FunD K "_law_is_label" "_law_is_label" (defArgs s_law_is_label) (defBody s_law_is_label) (defScope s_law_is_label) [] [] (He.fAd K ("_law_is_label", none)) fd := T.df 69 (d := d_law_is_label) rfl
theorem Tx.f_law_is_tile (T : Tx w K mg) : ∃ fd, FunD K "_law_is_tile" "_law_is_tile" (defArgs s_law_is_tile) (defBody s_law_is_tile) (defScope s_law_is_tile) [] [] (He.fAd K ("_law_is_tile", none)) fd := T.df 70 (d := d_law_is_tile) rfl
theorem Tx.f_law_are_labels (T : Tx w K mg) : ∃ fd, FunD K "_law_are_labels" "_law_are_labels" (defArgs s_law_are_labels) (defBody s_law_are_labels) (defScope s_law_are_labels) [] [] (He.fAd K ("_law_are_labels", none)) fd := T.df 71 (d := d_law_are_labels) rfl
theorem Tx.f_law_is_cut (T : Tx w K mg) : ∃ fd, FunD K "_law_is_cut" "_law_is_cut" (defArgs s_law_is_cut) (defBody s_law_is_cut) (defScope s_law_is_cut) [] [] (He.fAd K ("_law_is_cut", none)) fd := T.df 72 (d := d_law_is_cut) rfl
theorem Tx.f_law_strip_right (T : Tx w K mg) : ∃ fd, FunD K "_law_strip_right" "_law_strip_right" (defArgs s_law_strip_right) (defBody s_law_strip_right) (defScope s_law_strip_right) [] [] (He.fAd K ("_law_strip_right", none)) fd := T.df 73 (d := d_law_strip_right) rfl
theorem Tx.f_law_right (T : Tx w K mg) : ∃ fd, FunD K "_law_right" "_law_right" (defArgs s_law_right) (defBody s_law_right) (defScope s_law_right) [] [] (He.fAd K ("_law_right", none)) fd := T.df 74 (d := d_law_right) rfl
theorem Tx.f_law (T : Tx w K mg) : ∃ fd, FunD K "law" "law" (defArgs s_law) (defBody s_law) (defScope s_law) [] [] (He.fAd K ("law", none)) fd := T.df 75 (d := d_law) rfl
theorem Tx.f_View_init (T : Tx w K mg) : ∃ fd, FunD K "__init__" "View.__init__" (defArgs s_View_init) (defBody s_View_init) (defScope s_View_init) [V.non] [] (He.fAd K ("View", some "__init__")) fd := T.df 76 (d := d_View_init) rfl
theorem Tx.f_View_is_there (T : Tx w K mg) : ∃ fd, FunD K "is_there" "View.is_there" (defArgs s_View_is_there) (defBody s_View_is_there) (defScope s_View_is_there) [] [] (He.fAd K ("View", some "is_there")) fd := T.df 77 (d := d_View_is_there) rfl
theorem Tx.f_View_ranks (T : Tx w K mg) : ∃ fd, FunD K "ranks" "View.ranks" (defArgs s_View_ranks) (defBody s_View_ranks) (defScope s_View_ranks) [] [] (He.fAd K ("View", some "ranks")) fd := T.df 78 (d := d_View_ranks) rfl
theorem Tx.f_View_half_height (T : Tx w K mg) : ∃ fd, FunD K "half_height" "View.half_height" (defArgs s_View_half_height) (defBody s_View_half_height) (defScope s_View_half_height) [] [] (He.fAd K ("View", some "half_height")) fd := T.df 79 (d := d_View_half_height) rfl
theorem Tx.f_View_half_width (T : Tx w K mg) : ∃ fd, FunD K "half_width" "View.half_width" (defArgs s_View_half_width) (defBody s_View_half_width) (defScope s_View_half_width) [] [] (He.fAd K ("View", some "half_width")) fd := T.df 80 (d := d_View_half_width) rfl
theorem Tx.f_View_greatest (T : Tx w K mg) : ∃ fd, FunD K "greatest" "View.greatest" (defArgs s_View_greatest) (defBody s_View_greatest) (defScope s_View_greatest) [] [] (He.fAd K ("View", some "greatest")) fd := T.df 81 (d := d_View_greatest) rfl
theorem Tx.f_View_broadest (T : Tx w K mg) : ∃ fd, FunD K "broadest" "View.broadest" (defArgs s_View_broadest) (defBody s_View_broadest) (defScope s_View_broadest) [] [] (He.fAd K ("View", some "broadest")) fd := T.df 82 (d := d_View_broadest) rfl
theorem Tx.f_View_can_overlap (T : Tx w K mg) : ∃ fd, FunD K "can_overlap" "View.can_overlap" (defArgs s_View_can_overlap) (defBody s_View_can_overlap) (defScope s_View_can_overlap) [] [] (He.fAd K ("View", some "can_overlap")) fd := T.df 83 (d := d_View_can_overlap) rfl
theorem Tx.f_View_can_clash (T : Tx w K mg) : ∃ fd, FunD K "can_clash" "View.can_clash" (defArgs s_View_can_clash) (defBody s_View_can_clash) (defScope s_View_can_clash) [] [] (He.fAd K ("View", some "can_clash")) fd := T.df 84 (d := d_View_can_clash) rfl
theorem Tx.f_View_box (T : Tx w K mg) : ∃ fd, FunD K "box" "View.box" (defArgs s_View_box) (defBody s_View_box) (defScope s_View_box) [] [] (He.fAd K ("View", some "box")) fd := T.df 85 (d := d_View_box) rfl
theorem Tx.f_View_do_overlap (T : Tx w K mg) : ∃ fd, FunD K "do_overlap" "View.do_overlap" (defArgs s_View_do_overlap) (defBody s_View_do_overlap) (defScope s_View_do_overlap) [] [] (He.fAd K ("View", some "do_overlap")) fd := T.df 86 (d := d_View_do_overlap) rfl
theorem Tx.f_View_do_clash (T : Tx w K mg) : ∃ fd, FunD K "do_clash" "View.do_clash" (defArgs s_View_do_clash) (defBody s_View_do_clash) (defScope s_View_do_clash) [] [] (He.fAd K ("View", some "do_clash")) fd := T.df 87 (d := d_View_do_clash) rfl
theorem Tx.f_ClassRow_init (T : Tx w K mg) : ∃ fd, FunD K "__init__" "ClassRow.__init__" (defArgs s_ClassRow_init) (defBody s_ClassRow_init) (defScope s_ClassRow_init) [] [] (He.fAd K ("ClassRow", some "__init__")) fd := T.df 88 (d := d_ClassRow_init) rfl
theorem Tx.f_ClassRow_size_at (T : Tx w K mg) : ∃ fd, FunD K "size_at" "ClassRow.size_at" (defArgs s_ClassRow_size_at) (defBody s_ClassRow_size_at) (defScope s_ClassRow_size_at) [] [] (He.fAd K ("ClassRow", some "size_at")) fd := T.df 89 (d := d_ClassRow_size_at) rfl
theorem Tx.f_Reader_init (T : Tx w K mg) : ∃ fd, FunD K "__init__" "Reader.__init__" (defArgs s_Reader_init) (defBody s_Reader_init) (defScope s_Reader_init) [] [] (He.fAd K ("Reader", some "__init__")) fd := T.df 90 (d := d_Reader_init) rfl
theorem Tx.f_Reader_pair_of (T : Tx w K mg) : ∃ fd, FunD K "pair_of" "Reader.pair_of" (defArgs s_Reader_pair_of) (defBody s_Reader_pair_of) (defScope s_Reader_pair_of) [] [] (He.fAd K ("Reader", some "pair_of")) fd := T.df 91 (d := d_Reader_pair_of) rfl
theorem Tx.f_Reader_take (T : Tx w K mg) : ∃ fd, FunD K "take" "Reader.take" (defArgs s_Reader_take) (defBody s_Reader_take) (defScope s_Reader_take) [] [] (He.fAd K ("Reader", some "take")) fd := T.df 92 (d := d_Reader_take) rfl
theorem Tx.f_Reader_take_zooms (T : Tx w K mg) : ∃ fd, FunD K "take_zooms" "Reader.take_zooms" (defArgs s_Reader_take_zooms) (defBody s_Reader_take_zooms) (defScope s_Reader_take_zooms) [] [] (He.fAd K ("Reader", some "take_zooms")) fd := T.df 93 (d := d_Reader_take_zooms) rfl
theorem Tx.f_Reader_take_class (T : Tx w K mg) : ∃ fd, FunD K "take_class" "Reader.take_class" (defArgs s_Reader_take_class) (defBody s_Reader_take_class) (defScope s_Reader_take_class) [] [] (He.fAd K ("Reader", some "take_class")) fd := T.df 94 (d := d_Reader_take_class) rfl
theorem Tx.f_Reader_take_beside (T : Tx w K mg) : ∃ fd, FunD K "take_beside" "Reader.take_beside" (defArgs s_Reader_take_beside) (defBody s_Reader_take_beside) (defScope s_Reader_take_beside) [] [] (He.fAd K ("Reader", some "take_beside")) fd := T.df 95 (d := d_Reader_take_beside) rfl
theorem Tx.f_Reader_take_far (T : Tx w K mg) : ∃ fd, FunD K "take_far" "Reader.take_far" (defArgs s_Reader_take_far) (defBody s_Reader_take_far) (defScope s_Reader_take_far) [] [] (He.fAd K ("Reader", some "take_far")) fd := T.df 96 (d := d_Reader_take_far) rfl
theorem Tx.f_Style_init (T : Tx w K mg) : ∃ fd, FunD K "__init__" "Style.__init__" (defArgs s_Style_init) (defBody s_Style_init) (defScope s_Style_init) [] [] (He.fAd K ("Style", some "__init__")) fd := T.df 97 (d := d_Style_init) rfl
theorem Tx.f_Style_check_zoom (T : Tx w K mg) : ∃ fd, FunD K "check_zoom" "Style.check_zoom" (defArgs s_Style_check_zoom) (defBody s_Style_check_zoom) (defScope s_Style_check_zoom) [] [] (He.fAd K ("Style", some "check_zoom")) fd := T.df 98 (d := d_Style_check_zoom) rfl
theorem Tx.f_Style_do_compete (T : Tx w K mg) : ∃ fd, FunD K "do_compete" "Style.do_compete" (defArgs s_Style_do_compete) (defBody s_Style_do_compete) (defScope s_Style_do_compete) [] [] (He.fAd K ("Style", some "do_compete")) fd := T.df 99 (d := d_Style_do_compete) rfl
theorem Tx.f_Style_distance (T : Tx w K mg) : ∃ fd, FunD K "distance" "Style.distance" (defArgs s_Style_distance) (defBody s_Style_distance) (defScope s_Style_distance) [] [] (He.fAd K ("Style", some "distance")) fd := T.df 100 (d := d_Style_distance) rfl
end
end Sl
/-! SlTm: what the head is asked of TooMany and LabelError. -/
namespace Sl
open PySem PySem.Spec PyProof.Rows L2
abbrev s_LE : Stmt := inClass (top 14) 0
abbrev aTM (K : PySem.W.Frag) : Addr := He.ga K "TooMany"
abbrev aLE (K : PySem.W.Frag) : Addr := He.ga K "LabelError"
abbrev aLI (K : PySem.W.Frag) : Addr := He.ma K (aLE K) "__init__"
def excB (K : PySem.W.Frag) (C : Addr) : Bool := match K.lookup C with
  | some ⟨.type t, _, .cls cd, sl⟩ => (match cd.mro, sl.toList with
    | .ref C' :: bm, [_, _, _, _, some (.builtin n), _] => decide (t = "type") && (decide (C' = C) && (decide (n = "ValueError.__new__") && (!cd.hasDel && (cd.hasDict && PySem.HandSPX.refsVE bm))))
    | _, _ => false)
  | _ => false
def fileB (K : PySem.W.Frag) (file : Str) (c : Addr) : Bool := match K.lookup c with
  | some ⟨_, _, .fields vs, _⟩ => (match (vs[2]? : Option Value) with
    | some (Value.str f _) => file == f
    | _ => false)
  | _ => false
def cellB (K : PySem.W.Frag) (c D : Addr) : Bool := match K.lookup c with
  | some ⟨_, _, .cell (some (.ref D')), _⟩ => decide (D' = D)
  | _ => false
def leC (K : PySem.W.Frag) (file : Str) : Bool := match K.lookup (aLI K) with
  | some ⟨_, _, .func fd, _⟩ => (match fd.code, fd.closure with
    | .ref cda, [(x, cc)] => decide (x = "__class__") && (PySem.W.codeIn K (.ref cda) "LabelError.__init__" && (fileB K file cda && cellB K cc (aLE K)))
    | _, _ => false)
  | _ => false
abbrev LeT : Type := Option (Str × Str × Arguments × FuncBody × Scope × Addr × Addr × Value × Value)
def leW (K : PySem.W.Frag) : LeT := match K.lookup (aLI K) with
  | some ⟨_, _, .func fd, _⟩ => some (fd.name, fd.qualname, fd.params, fd.body, fd.scope, fd.globals, fd.builtins, fd.defaults, fd.kwdefaults)
  | _ => none
def leVal : LeT := some ("__init__", "LabelError.__init__", defArgs s_LE, .stmts (defBody s_LE), defScope s_LE, mainGlobals, builtinsNs, .none, .none)
def tmB (file : Str) (K : PySem.W.Frag) : Bool :=
  excB K (aTM K) && (decide (PySem.W.findIn K (.ref (aTM K)) "__setattr__" = some (some (.builtin "object.__setattr__"))) && (decide (PySem.W.subIn K (.ref (aTM K)) (.type "BaseException") = some true) && (decide (PySem.W.typeIn K (.ref (aTM K)) = some (.type "type")) &&
  (PySem.W.keepIn K (.ref (aTM K)) && (decide (PySem.W.findIn K (.ref (aTM K)) "value" = some none) && (decide (PySem.W.findIn K (.ref (aTM K)) "__init__" = some (some (.ref (aLI K)))) && (decide (PySem.W.typeIn K (.ref (aLI K)) = some (.type "function")) &&
  (leC K file && ((PySem.W.clsIn K (aLE K)).isSome && (decide (PySem.W.mroIn K (aTM K) (.ref (aLE K)) = some true) && (decide (PySem.W.subIn K (.ref (aTM K)) (.type "ValueError") = some true) && (decide (PySem.W.nsIn K cStatics "thirdparty.any" = some none) &&
  (decide (PySem.W.ks_superIn K (aTM K) (aLE K) "__init__" = some (some (.builtin "ValueError.__init__"))) && (decide (PySem.W.exmOne K (.ref (aTM K)) (.ref (aLE K)) = some true) && (xfB K (aTM K) && decide (PySem.W.nsIn K mainGlobals "super" = some none))))))))))))))))
end Sl
namespace Sl
open PySem PySem.W PySem.Calls PyProof.Rows
abbrev RR : OpenRow := OpenLaw.row PySem.Challenge.rw_steadylabels_k71_whole_no_strip_is_enoug
abbrev qv : Program := view RR.prog [140]
def names0 : List PySem.Str := ["_wall", "WIDE", "HIGH", "View", "endless", "stride_of", "span", "can_follow", "chains", "classes_of", "longest", "LabelError", "BadStyle", "NoClass", "BadZoom", "BadStrip", "TooMany", "LETTERS_words", "FIGURES", "MOST_LETTERS", "ZERO", "is_integer", "is_between", "is_tuple", "is_name", "is_word", "whole_in", "LABEL_PARTS", "MOST_LABELS", "MOST_WEIGHT"]
def names1 : List PySem.Str := ["MOST_PLACE", "is_place", "is_weight", "is_label", "order_key", "in_order", "gap_between", "can_stand", "first_bad", "are_labels", "looked", "NONE", "PAIR", "TRIPLE", "STRIP", "WHOLE", "CUT", "MOST_SIDE", "CUT_TILE", "LETTERS_tiles", "is_tile", "is_side", "check_strip", "lies_by", "meets", "labels_told", "strip_of", "least_strip", "row_beyond", "labels_of"]
def names2 : List PySem.Str := ["cut", "shows_cut", "ZOOMS", "CLASS", "BESIDE", "FAR", "BEHIND", "MOST_ZOOMS", "MOST_CLASSES", "LEAST_SIZE", "MOST_SIZE", "MOST_LEAST", "MOST_MORE", "MOST_FAR", "ZOOMS_WORDS", "CLASS_WORDS", "BESIDE_WORDS", "FAR_WORDS", "SIZES_AT", "ClassRow", "are_sizes", "class_row", "Reader", "read_style", "rank_pair", "Style", "_law_pot", "_law_take", "_law_of", "_law_name"]
def names3 : List PySem.Str := ["_law_sizes", "_law_classes", "_law_pairs", "_law_is_there", "_law_pixel", "_law_half", "_law_distance", "_law_lore", "_law_text", "_law_pair", "_law_rank", "_law_ordered", "_law_box", "_law_apart", "_law_overlap", "_law_clash", "_law_is_near", "_law_looked", "_law_shown", "_law_caught", "_law_far", "_law_widest", "_law_ranks", "_law_can_bar", "_law_spread", "_law_subsets", "_law_fits", "_law_rows", "_law_own", "_law_titles"]
def names4 : List PySem.Str := ["_law_by", "_law_meets", "_law_tiled", "_law_is_number", "_law_is_title", "_law_is_label", "_law_is_tile", "_law_are_labels", "_law_is_cut", "_law_strip_right", "_law_right"]
def names : List PySem.Str := names0 ++ names1 ++ names2 ++ names3 ++ names4

/-! the written part: what the module's names reach, step by step -/
def refsQ (o : Obj) : List Addr := match o.data with
  | .seq its _ => its.toList.flatMap He.refV
  | .dict es _ => es.toList.flatMap fun e => He.refV e.val
  | .func fd => fd.closure.map (·.2) ++ (He.refV fd.code ++ He.refV fd.defaults)
  | .cls cd => cd.ns :: cd.mro.flatMap He.refV
  | _ => []
def nextQ (g : Addr → Option Obj) (as : List Addr) : List Addr := as.flatMap fun a => match g a with
  | some o => refsQ o
  | none => []
def asQ (g : Addr → Option Obj) : List Addr := mainGlobals :: cStatics :: (nextQ g [mainGlobals] ++ (nextQ g (nextQ g [mainGlobals]) ++ (nextQ g (nextQ g (nextQ g [mainGlobals])) ++ nextQ g (nextQ g (nextQ g (nextQ g [mainGlobals]))))))
def obsQ (fa : List He.Fa) (fn : List He.DefD) (ts : List He.Tab) (tf : List He.Defn) (ex : Frag → Bool) (g : Addr → Option Obj) : He.AlX :=
  (He.obsT fa fn ts (He.frT g (asQ g)), ex (He.frT g (asQ g)) && He.tabsB g tf (He.frT g (asQ g)))
theorem saysQ {fa : List He.Fa} {fn : List He.DefD} {ts : List He.Tab} {tf : List He.Defn} {ex : Frag → Bool} {w : World} {h : Heap} (e : obsQ fa fn ts tf ex h.get? = He.valX fn ts w) : He.SaysX fa fn ts tf ex w h (He.frT h.get? (asQ h.get?)) := by
  obtain ⟨m1, m2⟩ := He.ba (show (ex (He.frT h.get? (asQ h.get?)) && He.tabsB h.get? tf (He.frT h.get? (asQ h.get?))) = true from congrArg (fun z : He.AlX => z.2) e)
  have tb : ∀ p ∈ tf, PySem.W.codeHdIn (He.frT h.get? (asQ h.get?)) (He.cT (He.frT h.get? (asQ h.get?)) p).1 (He.cT (He.frT h.get? (asQ h.get?)) p).2 = true ∧ ∃ o, h.get? (He.cT (He.frT h.get? (asQ h.get?)) p).2 = some o ∧ He.emptyTab o = true := fun p hp => by
    obtain ⟨t1, t2⟩ := He.ba (List.all_eq_true.mp m2 p hp)
    refine ⟨t1, ?_⟩
    split at t2
    · rename_i o q
      exact ⟨o, q, t2⟩
    · cases t2
  constructor
  · exact congrArg (fun z : He.AlX => z.1) e
  · exact m1
  · exact fun p hp => (tb p hp).1
  · intro p hp
    obtain ⟨_, o, q, z⟩ := tb p hp
    exact He.frT_none q z
  · intro p hp
    obtain ⟨_, o, q, z⟩ := tb p hp
    rw [q, He.emptyTab_eq z]
abbrev fileQ : PySem.Str := RR.prog.main.file
abbrev KQ (g : Addr → Option Obj) : Frag := He.frT g (asQ g)
abbrev AlZ : Type := He.AlD × (Bool × LeT)
def obsZ (g : Addr → Option Obj) : AlZ := (He.obsD [] fnl (KQ g), (tmB fileQ (KQ g), leW (KQ g)))
def valZ : AlZ := (He.valD fnl, (true, leVal))
def hk : Hook where
  α := He.AlX × AlZ
  obs := fun s => (obsQ fal [] tabl lams exB s.heap.get?, obsZ s.heap.get?)
  val := fun w => (He.valX [] tabl w, valZ)
  says := fun w h => ∃ K : Frag, K.In h ∧ He.SaysX fal [] tabl lams exB w h K ∧ He.SaysD [] fnl K ∧ tmB fileQ K = true ∧ leW K = leVal
  of := fun w s e => ⟨_, He.frT_in, saysQ (congrArg (fun z : He.AlX × AlZ => z.1) e), congrArg (fun z : He.AlX × AlZ => z.2.1) e, congrArg (fun z : He.AlX × AlZ => z.2.2.1) e, congrArg (fun z : He.AlX × AlZ => z.2.2.2) e⟩
  keeps := fun _ _ _ ⟨K, hK, c, r⟩ k => ⟨K, Frag.In.keeps hK k, ⟨c.t, c.more, c.hd, c.out, fun p hp => k _ _ (c.empty p hp)⟩, r⟩
def ob1 (s : SharedT) : He.AlX := obsQ fal [] tabl lams exB (HandSHeadRun.getT s)
def ob2 (s : SharedT) : AlZ := obsZ (HandSHeadRun.getT s)
def ob (s : SharedT) : He.AlX × AlZ := (ob1 s, ob2 s)
theorem ob_eq (s : SharedT) : ob s = hk.obs s.abs := by
  have e : HandSHeadRun.getT s = s.abs.heap.get? := funext (HandSHeadRun.getT_eq s)
  unfold ob ob1 ob2
  rw [e]
  rfl
/-- the run, looked at in parts -/
noncomputable def endQ (w : World) (os : OsState) := HandSHeadRun.endF (HandSHeadRun.stepQ (HandSHeadRun.denQ HandSHeadRun.tabQ) RR.prog w) 8000 RR.prog w os
theorem part {σ α β γ δ : Type} {o : Option σ} {f : σ → α} {g : σ → β} {u : σ → γ} {v : σ → δ} {a : α} {b : β} {c : γ} {d : δ} (h0 : (o.map fun s => (f s, g s, ())) = some (a, b, ())) (h1 : o.map u = some c) (h2 : o.map v = some d) :
    (o.map fun s => (f s, g s, (u s, v s))) = some (a, b, (c, d)) := by
  cases o with
  | none => cases h1
  | some s =>
    cases h1
    cases h2
    cases h0
    rfl
abbrev wF (w : World) : World := w.withFollow "special-get-raises" false
abbrev wT (w : World) : World := w.withFollow "special-get-raises" true
theorem run0F (w : World) : HandSHeadRun.RunEq RR qv Hook.none (fun _ => ()) 8000 names (wF w) := by
  intro os
  kernel_rfl
theorem run0T (w : World) : HandSHeadRun.RunEq RR qv Hook.none (fun _ => ()) 8000 names (wT w) := by
  intro os
  kernel_rfl
theorem run1F (w : World) (os : OsState) : (endQ (wF w) os).map ob1 = some (He.valX [] tabl (wF w)) := by kernel_rfl
theorem run1T (w : World) (os : OsState) : (endQ (wT w) os).map ob1 = some (He.valX [] tabl (wT w)) := by kernel_rfl
theorem run2F (w : World) (os : OsState) : (endQ (wF w) os).map ob2 = some valZ := by kernel_rfl
theorem run2T (w : World) (os : OsState) : (endQ (wT w) os).map ob2 = some valZ := by kernel_rfl
theorem runF (w : World) : HandSHeadRun.RunEq RR qv hk ob 8000 names (wF w) := fun os => part (run0F w os) (run1F w os) (run2F w os)
theorem runT (w : World) : HandSHeadRun.RunEq RR qv hk ob 8000 names (wT w) := fun os => part (run0T w os) (run1T w os) (run2T w os)
theorem run (w : World) : HandSHeadRun.RunEq RR qv hk ob 8000 names w := byRow2 "special-get-raises" (P := fun w => HandSHeadRun.RunEq RR qv hk ob 8000 names w) runF runT w
end Sl
/-! Sl1: data as predicates of a heap that grows; what an expression, a test, a statement makes of an environment of data. -/
namespace Sl
open PySem PySem.Spec PyProof.Rows L2 StX RZ
open Evl (Ex ex_l ex_t ex_rd sq_of st_of sz_of sz_lt fresh_back)

/-! ### data -/
structure Dt where
  P : Hp → V → Prop
  mono : ∀ {H H' : Hp} {v : V}, Ex H H' → P H v → P H' v
def dV (x : V) : Dt := ⟨fun _ v => v = x, fun _ h => h⟩
abbrev dI (i : Int) : Dt := dV (.int i)
abbrev dB (b : Bool) : Dt := dV (.bl b)
abbrev dS (s : Str) : Dt := dV (.str s)
abbrev dN : Dt := dV .non
def All2 (H : Hp) : List Dt → List V → Prop
  | [], [] => True
  | d :: ds, v :: vs => d.P H v ∧ All2 H ds vs
  | _, _ => False
theorem All2.mono {H H' : Hp} (e : Ex H H') : ∀ {ds : List Dt} {vs : List V}, All2 H ds vs → All2 H' ds vs
  | [], [], _ => True.intro
  | d :: _, _ :: _, h => ⟨d.mono e h.1, All2.mono e h.2⟩
  | [], _ :: _, h => h.elim
  | _ :: _, [], h => h.elim
theorem All2.len {H : Hp} : ∀ {ds : List Dt} {vs : List V}, All2 H ds vs → ds.length = vs.length
  | [], [], _ => rfl
  | _ :: _, _ :: _, h => congrArg (· + 1) (All2.len h.2)
  | [], _ :: _, h => h.elim
  | _ :: _, [], h => h.elim
theorem All2.get {H : Hp} : ∀ {ds : List Dt} {vs : List V} {i : Nat} {d : Dt}, All2 H ds vs → ds[i]? = some d → ∃ v, vs[i]? = some v ∧ d.P H v
  | d :: _, v :: _, 0, _, h, e => by
    cases e
    exact ⟨v, rfl, h.1⟩
  | _ :: ds, _ :: vs, i + 1, d, h, e => by
    have e' : ds[i]? = some d := by simpa using e
    obtain ⟨v, a, b⟩ := All2.get (i := i) h.2 e'
    exact ⟨v, by simpa using a, b⟩
  | [], [], i, _, _, e => by simp at e
  | [], _ :: _, _, _, h, _ => h.elim
  | _ :: _, [], _, _, h, _ => h.elim
theorem All2.of {H : Hp} : ∀ {ds : List Dt} {vs : List V}, ds.length = vs.length → (∀ (i : Nat) d v, ds[i]? = some d → vs[i]? = some v → d.P H v) → All2 H ds vs
  | [], [], _, _ => True.intro
  | d :: ds, v :: vs, hl, h => ⟨h 0 d v rfl rfl, All2.of (by simpa using hl) fun i d v a b => h (i + 1) d v (by simpa using a) (by simpa using b)⟩
  | [], _ :: _, hl, _ => by simp at hl
  | _ :: _, [], hl, _ => by simp at hl
theorem All2.get' {H : Hp} {ds : List Dt} {vs : List V} {i : Nat} {v : V} (h : All2 H ds vs) (e : vs[i]? = some v) : ∃ d, ds[i]? = some d ∧ d.P H v := by
  have hi := (List.getElem?_eq_some_iff.mp e).1
  have hl := h.len
  have hd : ds[i]? = some (ds[i]'(by omega)) := List.getElem?_eq_getElem _
  obtain ⟨v', a, b⟩ := h.get hd
  rw [e] at a
  cases a
  exact ⟨_, hd, b⟩
theorem All2.app {H : Hp} : ∀ {ds es : List Dt} {vs us : List V}, All2 H ds vs → All2 H es us → All2 H (ds ++ es) (vs ++ us)
  | [], _, [], _, _, h => h
  | _ :: _, _, _ :: _, _, a, h => ⟨a.1, All2.app a.2 h⟩
  | [], _, _ :: _, _, a, _ => a.elim
  | _ :: _, _, [], _, a, _ => a.elim
theorem All2.take {H : Hp} : ∀ (n : Nat) {ds : List Dt} {vs : List V}, All2 H ds vs → All2 H (ds.take n) (vs.take n)
  | 0, _, _, _ => True.intro
  | _ + 1, [], [], _ => True.intro
  | n + 1, _ :: _, _ :: _, h => ⟨h.1, All2.take n h.2⟩
  | _ + 1, [], _ :: _, h => h.elim
  | _ + 1, _ :: _, [], h => h.elim
theorem All2.drop {H : Hp} : ∀ (n : Nat) {ds : List Dt} {vs : List V}, All2 H ds vs → All2 H (ds.drop n) (vs.drop n)
  | 0, _, _, h => h
  | _ + 1, [], [], _ => True.intro
  | n + 1, _ :: _, _ :: _, h => All2.drop n h.2
  | _ + 1, [], _ :: _, h => h.elim
  | _ + 1, _ :: _, [], h => h.elim
theorem All2.vals {H : Hp} {α : Type} (f : α → V) : ∀ {l : List α} {vs : List V}, All2 H (l.map fun a => dV (f a)) vs → vs = l.map f
  | [], [], _ => rfl
  | a :: l, v :: vs, h => by
    have h1 : v = f a := h.1
    rw [h1, All2.vals f (l := l) (vs := vs) h.2] <;> rfl
  | [], _ :: _, h => h.elim
  | _ :: _, [], h => h.elim
theorem All2.of_vals {H : Hp} {α : Type} (f : α → V) : ∀ l : List α, All2 H (l.map fun a => dV (f a)) (l.map f)
  | [] => True.intro
  | _ :: l => ⟨rfl, All2.of_vals f l⟩
/-- a tuple, a list that stands still -/
def dTup (K : PySem.W.Frag) (ds : List Dt) : Dt := ⟨fun H v => ∃ p vs, v = .ref p ∧ SqT K H p vs ∧ All2 H ds vs, fun e ⟨p, vs, a, b, c⟩ => ⟨p, vs, a, ex_t e b, c.mono e⟩⟩
def dLst (K : PySem.W.Frag) (ds : List Dt) : Dt := ⟨fun H v => ∃ p vs, v = .ref p ∧ H p = some (.lst vs) ∧ All2 H ds vs, fun e ⟨p, vs, a, b, c⟩ => ⟨p, vs, a, e _ _ b, c.mono e⟩⟩

/-! ### data that no list's change touches -/
def Soft (o : HO) : Prop := (∃ xs, o = .lst xs) ∨ ∃ ps, o = .tbl ps
def Kx (H H' : Hp) : Prop := ∀ a o, H a = some o → ¬ Soft o → H' a = some o
theorem Kx.of {H H' : Hp} (e : Ex H H') : Kx H H' := fun a o h _ => e a o h
theorem Kx.trans {H H1 H2 : Hp} (a : Kx H H1) (b : Kx H1 H2) : Kx H H2 := fun x o h n => b x o (a x o h n) n
theorem soft_tup {xs : List V} : ¬ Soft (.tup xs) := fun h => by rcases h with ⟨_, h⟩ | ⟨_, h⟩ <;> cases h
theorem soft_frz {o : Obj} {u : HO} : ¬ Soft (.frz o u) := fun h => by rcases h with ⟨_, h⟩ | ⟨_, h⟩ <;> cases h
theorem soft_ins {C dx : Addr} {fs : List (Str × V)} : ¬ Soft (.ins C dx fs) := fun h => by rcases h with ⟨_, h⟩ | ⟨_, h⟩ <;> cases h
theorem soft_own {x : Addr} : ¬ Soft (.own x) := fun h => by rcases h with ⟨_, h⟩ | ⟨_, h⟩ <;> cases h
theorem soft_dK {kvs : List (Key × V)} : ¬ Soft (.dK kvs) := fun h => by rcases h with ⟨_, h⟩ | ⟨_, h⟩ <;> cases h
theorem soft_dT {kvs : List (List Key × V)} : ¬ Soft (.dT kvs) := fun h => by rcases h with ⟨_, h⟩ | ⟨_, h⟩ <;> cases h
theorem Kx.set {H : Hp} {p : Addr} {xs ys : List V} (h : H p = some (.lst xs)) : Kx H (upd H p (.lst ys)) := fun a o e n => by
  by_cases c : a = p
  · subst c
    rw [h] at e
    exact absurd (Or.inl ⟨xs, (Option.some.inj e).symm⟩) n
  · rw [upd_ne c]
    exact e
def Imm (d : Dt) : Prop := ∀ {H H' : Hp} {v : V}, Kx H H' → d.P H v → d.P H' v
theorem imm_V (x : V) : Imm (dV x) := fun _ h => h
theorem All2.imm {H H' : Hp} (k : Kx H H') : ∀ {ds : List Dt} {vs : List V}, (∀ d ∈ ds, Imm d) → All2 H ds vs → All2 H' ds vs
  | [], [], _, _ => True.intro
  | d :: ds, _ :: _, i, h => ⟨i d List.mem_cons_self k h.1, All2.imm k (fun x hx => i x (List.mem_cons_of_mem _ hx)) h.2⟩
  | [], _ :: _, _, h => h.elim
  | _ :: _, [], _, h => h.elim
theorem kx_t {K : PySem.W.Frag} {H H' : Hp} {a : Addr} {xs : List V} (e : Kx H H') (h : SqT K H a xs) : SqT K H' a xs := by
  rcases h with (h | ⟨o, h⟩) | h
  · exact .inl (.inl (e a _ h soft_tup))
  · exact .inl (.inr ⟨o, e a _ h soft_frz⟩)
  · exact .inr h
theorem imm_tup {K : PySem.W.Frag} {ds : List Dt} (h : ∀ d ∈ ds, Imm d) : Imm (dTup K ds) := fun k ⟨p, vs, a, b, c⟩ => ⟨p, vs, a, kx_t k b, c.imm k h⟩

/-! ### environments -/
abbrev Rho := List (Option Dt)
def EnvOk (H : Hp) : Rho → L2.St → Prop
  | [], [] => True
  | o :: ρ, s :: σ => (∀ d, o = some d → ∃ v, s = some v ∧ d.P H v) ∧ EnvOk H ρ σ
  | _, _ => False
theorem EnvOk.mono {H H' : Hp} (e : Ex H H') : ∀ {ρ : Rho} {σ : L2.St}, EnvOk H ρ σ → EnvOk H' ρ σ
  | [], [], _ => True.intro
  | _ :: _, _ :: _, h => ⟨fun d hd => let ⟨v, a, b⟩ := h.1 d hd; ⟨v, a, d.mono e b⟩, EnvOk.mono e h.2⟩
  | [], _ :: _, h => h.elim
  | _ :: _, [], h => h.elim
theorem EnvOk.get {H : Hp} : ∀ {ρ : Rho} {σ : L2.St} {i : Nat} {d : Dt}, EnvOk H ρ σ → ρ[i]? = some (some d) → ∃ v, σ[i]? = some (some v) ∧ d.P H v
  | o :: _, s :: _, 0, d, h, e => by
    obtain ⟨v, a, b⟩ := h.1 d (by simpa using e)
    exact ⟨v, by rw [a]; rfl, b⟩
  | _ :: _, _ :: _, i + 1, d, h, e => by
    obtain ⟨v, a, b⟩ := EnvOk.get (i := i) h.2 (by simpa using e)
    exact ⟨v, by simpa using a, b⟩
  | [], [], _, _, _, e => by simp at e
  | [], _ :: _, _, _, h, _ => h.elim
  | _ :: _, [], _, _, h, _ => h.elim
theorem EnvOk.len {H : Hp} : ∀ {ρ : Rho} {σ : L2.St}, EnvOk H ρ σ → ρ.length = σ.length
  | [], [], _ => rfl
  | _ :: _, _ :: _, h => congrArg (· + 1) (EnvOk.len h.2)
  | [], _ :: _, h => h.elim
  | _ :: _, [], h => h.elim
theorem EnvOk.set {H : Hp} {v : V} {d : Dt} (hv : d.P H v) : ∀ {ρ : Rho} {σ : L2.St} (i : Nat), EnvOk H ρ σ → EnvOk H (ρ.set i (some d)) (σ.set i (some v))
  | [], [], _, _ => True.intro
  | _ :: _, _ :: _, 0, h => ⟨fun e he => ⟨v, rfl, by cases he; exact hv⟩, h.2⟩
  | _ :: _, _ :: _, i + 1, h => ⟨h.1, EnvOk.set hv i h.2⟩
  | [], _ :: _, _, h => h.elim
  | _ :: _, [], _, h => h.elim
theorem EnvOk.unset {H : Hp} (s : Option V) : ∀ {ρ : Rho} {σ : L2.St} (i : Nat), EnvOk H ρ σ → EnvOk H (ρ.set i none) (σ.set i s)
  | [], [], _, _ => True.intro
  | _ :: _, _ :: _, 0, h => ⟨fun e he => (by cases he), h.2⟩
  | _ :: _, _ :: _, i + 1, h => ⟨h.1, EnvOk.unset s i h.2⟩
  | [], _ :: _, _, h => h.elim
  | _ :: _, [], _, h => h.elim
theorem EnvOk.drop1 {H : Hp} : ∀ {ρ : Rho} {σ : L2.St} (i : Nat), EnvOk H ρ σ → EnvOk H (ρ.set i none) σ
  | [], [], _, _ => True.intro
  | _ :: _, _ :: _, 0, h => ⟨fun e he => (by cases he), h.2⟩
  | _ :: _, _ :: _, i + 1, h => ⟨h.1, EnvOk.drop1 i h.2⟩
  | [], _ :: _, _, h => h.elim
  | _ :: _, [], _, h => h.elim
/-- less is known -/
def Wk : Rho → Rho → Prop
  | [], [] => True
  | a :: ρ, b :: ρ' => (∀ d, b = some d → a = some d) ∧ Wk ρ ρ'
  | _, _ => False
theorem Wk.ok {H : Hp} : ∀ {ρ ρ' : Rho} {σ : L2.St}, Wk ρ ρ' → EnvOk H ρ σ → EnvOk H ρ' σ
  | [], [], [], _, h => h
  | _ :: _, _ :: _, _ :: _, w, h => ⟨fun d hd => h.1 d (w.1 d hd), Wk.ok w.2 h.2⟩
  | [], [], _ :: _, _, h => h.elim
  | _ :: _, _ :: _, [], _, h => h.elim
  | [], _ :: _, _, w, _ => w.elim
  | _ :: _, [], _, w, _ => w.elim
theorem Wk.refl : ∀ ρ : Rho, Wk ρ ρ
  | [] => True.intro
  | _ :: ρ => ⟨fun _ h => h, Wk.refl ρ⟩
theorem wk_c {a : Option Dt} {ρ ρ' : Rho} (h : Wk ρ ρ') : Wk (a :: ρ) (a :: ρ') := ⟨fun _ h => h, h⟩
theorem wk_n {a : Option Dt} {ρ ρ' : Rho} (h : Wk ρ ρ') : Wk (a :: ρ) (none :: ρ') := ⟨(fun _ h => nomatch h), h⟩
theorem wk_0 : Wk [] [] := True.intro
def wpR (ρ : Rho) : List Nat → Rho
  | [] => ρ
  | v :: vs => (wpR ρ vs).set v none
theorem EnvOk.wipe {H : Hp} {ρ : Rho} {σ : L2.St} (h : EnvOk H ρ σ) : ∀ vs : List Nat, EnvOk H (wpR ρ vs) (L2.wipe σ vs)
  | [] => h
  | v :: vs => EnvOk.unset none v (EnvOk.wipe h vs)
theorem EnvOk.start {H : Hp} : ∀ {ds : List Dt} {vs : List V}, All2 H ds vs → ∀ n : Nat, EnvOk H (ds.map some ++ List.replicate n none) (vs.map some ++ List.replicate n none)
  | [], [], _, 0 => True.intro
  | [], [], h, n + 1 => ⟨(fun _ z => nomatch z), EnvOk.start (ds := []) (vs := []) h n⟩
  | _ :: _, v :: _, h, n => ⟨fun d hd => ⟨v, rfl, by cases hd; exact h.1⟩, EnvOk.start h.2 n⟩
  | [], _ :: _, h, _ => h.elim
  | _ :: _, [], h, _ => h.elim

/-! ### what evaluates to what -/
def Ed (te : TE) (ρ : Rho) (d : Dt) : Prop := ∀ H σ, EnvOk H ρ σ → ∀ Q : VK, (∀ v H', Ex H H' → d.P H' v → Q v H') → te σ H Q
def Td (t : TT) (ρ : Rho) (b : Bool) : Prop := ∀ H σ, EnvOk H ρ σ → ∀ Q : Bool → Hp → Prop, (∀ H', Ex H H' → Q b H') → t σ H Q
def EdA (ta : TA) (ρ : Rho) (ds : List Dt) : Prop := ∀ H σ, EnvOk H ρ σ → ∀ Q : List V → Hp → Prop, (∀ vs H', Ex H H' → All2 H' ds vs → Q vs H') → ta σ H Q
def EdO (to : TO) (ρ : Rho) (o : Option Int) : Prop := ∀ H σ, EnvOk H ρ σ → ∀ Q : Option Int → Hp → Prop, (∀ H', Ex H H' → Q o H') → to σ H Q
/-- by values -/
def RD (r : R2) (x y z : Dt) : Prop := ∀ H u v, x.P H u → y.P H v → ∀ Q : VK, (∀ w H', Ex H H' → z.P H' w → Q w H') → r u v H Q
def CD (r : List V → Hp → VK → Prop) (ds : List Dt) (d : Dt) : Prop := ∀ H vs, All2 H ds vs → ∀ Q : VK, (∀ w H', Ex H H' → d.P H' w → Q w H') → r vs H Q
section
variable {K : PySem.W.Frag} {ρ : Rho} {ta tb tc te tx : TE} {t u : TT} {x y z d : Dt} {r r' : R2} {i j k : Int} {a b c : Bool}
theorem ed_var {i : Nat} (h : ρ[i]? = some (some d) := by rfl) : Ed (tVar i) ρ d := fun H σ e Q q => by
  obtain ⟨v, a, b⟩ := e.get h
  exact ⟨v, a, q v H (Ex.refl H) b⟩
theorem ed_c {v : V} : Ed (tC v) ρ (dV v) := fun H _ _ _ q => q v H (Ex.refl H) rfl
theorem ed_op (ha : Ed ta ρ x) (hb : Ed tb ρ y) (hr : RD r x y z) : Ed (tOp r ta tb) ρ z := fun H σ e Q q =>
  ha H σ e _ fun u H1 e1 p1 => hb H1 σ (e.mono e1) _ fun v H2 e2 p2 => hr H2 u v (x.mono e2 p1) p2 Q fun w H3 e3 p3 => q w H3 ((e1.trans e2).trans e3) p3
theorem ed_is {x' : Dt} (h : Ed te ρ x) (e : x = x') : Ed te ρ x' := by
  rw [← e]
  exact h
theorem td_is (h : Td t ρ a) (e : a = b) : Td t ρ b := by
  rw [← e]
  exact h
theorem rd_I0 {g : Int → Int → V} : RD (rI0 g) (dI i) (dI j) (dV (g i j)) := fun H _ _ p q _ k => ⟨i, j, p, q, k _ H (Ex.refl H) rfl⟩
theorem rd_I {C : Int → Int → Prop} {g : Int → Int → V} (h : C i j) : RD (rI C g) (dI i) (dI j) (dV (g i j)) := fun H _ _ p q _ k => ⟨i, j, p, q, h, k _ H (Ex.refl H) rfl⟩
abbrev rAddI : R2 := rI0 fun i j => .int (i + j)
abbrev rSubI : R2 := rI0 fun i j => .int (i - j)
abbrev rLtI : R2 := rI0 fun i j => .bl (decide (i < j))
abbrev rLeI : R2 := rI0 fun i j => .bl (decide (i ≤ j))
abbrev rGtI : R2 := rI0 fun i j => .bl (decide (j < i))
abbrev rGeI : R2 := rI0 fun i j => .bl (decide (j ≤ i))
theorem ed_add (ha : Ed ta ρ (dI i)) (hb : Ed tb ρ (dI j)) : Ed (tOp rAddI ta tb) ρ (dI (i + j)) := ed_op ha hb rd_I0
theorem ed_sub (ha : Ed ta ρ (dI i)) (hb : Ed tb ρ (dI j)) : Ed (tOp rSubI ta tb) ρ (dI (i - j)) := ed_op ha hb rd_I0
theorem ed_lt (ha : Ed ta ρ (dI i)) (hb : Ed tb ρ (dI j)) : Ed (tOp rLtI ta tb) ρ (dB (decide (i < j))) := ed_op ha hb rd_I0
theorem ed_le (ha : Ed ta ρ (dI i)) (hb : Ed tb ρ (dI j)) : Ed (tOp rLeI ta tb) ρ (dB (decide (i ≤ j))) := ed_op ha hb rd_I0
theorem ed_gt (ha : Ed ta ρ (dI i)) (hb : Ed tb ρ (dI j)) : Ed (tOp rGtI ta tb) ρ (dB (decide (j < i))) := ed_op ha hb rd_I0
theorem ed_ge (ha : Ed ta ρ (dI i)) (hb : Ed tb ρ (dI j)) : Ed (tOp rGeI ta tb) ρ (dB (decide (j ≤ i))) := ed_op ha hb rd_I0
theorem ed_mul (ha : Ed ta ρ (dI i)) (hb : Ed tb ρ (dI j)) (h : CMul i j) : Ed (tOp (rI CMul fun i j => .int (i * j)) ta tb) ρ (dI (i * j)) := ed_op ha hb (rd_I h)
theorem ed_fdiv (ha : Ed ta ρ (dI i)) (hb : Ed tb ρ (dI j)) (h : CDiv i j) : Ed (tOp (rI CDiv fun i j => .int (i / j)) ta tb) ρ (dI (i / j)) := ed_op ha hb (rd_I h)
theorem ed_mod (ha : Ed ta ρ (dI i)) (hb : Ed tb ρ (dI j)) (h : 0 < j) : Ed (tOp (rI (fun _ j => 0 < j) fun i j => .int (i % j)) ta tb) ρ (dI (i % j)) := ed_op ha hb (rd_I h)
theorem ed_shl (ha : Ed ta ρ (dI i)) (hb : Ed tb ρ (dI j)) (h : CPow i j) : Ed (tOp (rI CPow fun i j => .int (i * 2 ^ j.toNat)) ta tb) ρ (dI (i * 2 ^ j.toNat)) := ed_op ha hb (rd_I h)
theorem ed_neg (ha : Ed ta ρ (dI i)) : Ed (tUn (rU fun i => .int (-i)) ta) ρ (dI (-i)) := fun H σ e Q q => ha H σ e _ fun v H1 e1 p1 => ⟨i, p1, q _ H1 e1 rfl⟩
theorem rd_eq {u v : V} (h : scal u v = true) : RD rEq (dV u) (dV v) (dB (decide (u = v))) := fun H x y p q Q k => by
  have p' : x = u := p
  have q' : y = v := q
  subst p' q'
  exact ⟨h, k _ H (Ex.refl H) rfl⟩
theorem rd_ne {u v : V} (h : scal u v = true) : RD rNe (dV u) (dV v) (dB (!decide (u = v))) := fun H x y p q Q k => by
  have p' : x = u := p
  have q' : y = v := q
  subst p' q'
  exact ⟨h, k _ H (Ex.refl H) rfl⟩
theorem dec_i {i j : Int} : decide (V.int i = V.int j) = decide (i = j) := by simp
theorem dec_s {i j : Str} : decide (V.str i = V.str j) = decide (i = j) := by simp
theorem ed_eqI (ha : Ed ta ρ (dI i)) (hb : Ed tb ρ (dI j)) : Ed (tOp rEq ta tb) ρ (dB (decide (i = j))) := dec_i ▸ ed_op ha hb (rd_eq rfl)
theorem ed_neI (ha : Ed ta ρ (dI i)) (hb : Ed tb ρ (dI j)) : Ed (tOp rNe ta tb) ρ (dB (!decide (i = j))) := dec_i ▸ ed_op ha hb (rd_ne rfl)
theorem ed_eqS {i j : Str} (ha : Ed ta ρ (dS i)) (hb : Ed tb ρ (dS j)) : Ed (tOp rEq ta tb) ρ (dB (decide (i = j))) := dec_s ▸ ed_op ha hb (rd_eq rfl)
theorem ed_neS {i j : Str} (ha : Ed ta ρ (dS i)) (hb : Ed tb ρ (dS j)) : Ed (tOp rNe ta tb) ρ (dB (!decide (i = j))) := dec_s ▸ ed_op ha hb (rd_ne rfl)
/-- a < b < c -/
theorem ed_chain {p q : Int → Int → Bool} (ha : Ed ta ρ (dI i)) (hb : Ed tb ρ (dI j)) (hc : Ed tc ρ (dI k)) : Ed (tChain (rI0 fun i j => .bl (p i j)) (rI0 fun i j => .bl (q i j)) ta tb tc) ρ (dB (p i j && q j k)) := fun H σ e Q kk =>
  ha H σ e _ fun u H1 e1 p1 => hb H1 σ (e.mono e1) _ fun v H2 e2 p2 => by
    have p1' : u = .int i := p1
    have p2' : v = .int j := p2
    subst p1' p2'
    refine ⟨i, j, rfl, rfl, p i j, rfl, ?_⟩
    cases hp : p i j with
    | true =>
      rw [if_pos rfl]
      exact hc H2 σ ((e.mono e1).mono e2) _ fun w H3 e3 p3 => ⟨j, k, rfl, p3, kk _ H3 ((e1.trans e2).trans e3) (by show V.bl (q j k) = V.bl (p i j && q j k); rw [hp, Bool.true_and])⟩
    | false =>
      rw [if_neg (by decide)]
      exact kk _ H2 (e1.trans e2) (by show V.bl false = V.bl (p i j && q j k); rw [hp, Bool.false_and])
/-! tests -/
theorem td_test (h : Ed te ρ (dB a)) : Td (tTest te) ρ a := fun H σ e Q q => h H σ e _ fun v H1 e1 p => ⟨a, p, q H1 e1⟩
theorem td_B (h : Ed te ρ (dB a)) : Td (tB te) ρ a := fun H σ e Q q => h H σ e _ fun v H1 e1 p => ⟨a, p, q H1 e1⟩
theorem td_and (h1 : Td t ρ a) (h2 : a = true → Td u ρ b) : Td (tAnd t u) ρ (a && b) := fun H σ e Q q => h1 H σ e _ fun H1 e1 => by
  cases a with
  | true => exact h2 rfl H1 σ (e.mono e1) _ fun H2 e2 => q H2 (e1.trans e2)
  | false => exact q H1 e1
theorem td_or (h1 : Td t ρ a) (h2 : a = false → Td u ρ b) : Td (tOr t u) ρ (a || b) := fun H σ e Q q => h1 H σ e _ fun H1 e1 => by
  cases a with
  | true => exact q H1 e1
  | false => exact h2 rfl H1 σ (e.mono e1) _ fun H2 e2 => q H2 (e1.trans e2)
theorem td_not (h1 : Td t ρ a) : Td (tNot t) ρ (!a) := fun H σ e _ q => h1 H σ e _ fun H1 e1 => q H1 e1
theorem td_yes : Td tYes ρ true := fun H _ _ _ q => q H (Ex.refl H)
theorem ed_andV (h1 : Ed ta ρ (dB a)) (h2 : a = true → Ed tb ρ (dB b)) : Ed (tAndV ta tb) ρ (dB (a && b)) := fun H σ e Q q => h1 H σ e _ fun v H1 e1 p => ⟨a, p, by
  cases a with
  | true => exact h2 rfl H1 σ (e.mono e1) _ fun w H2 e2 p2 => q w H2 (e1.trans e2) p2
  | false => exact q _ H1 e1 rfl⟩
theorem ed_orV (h1 : Ed ta ρ (dB a)) (h2 : a = false → Ed tb ρ (dB b)) : Ed (tOrV ta tb) ρ (dB (a || b)) := fun H σ e Q q => h1 H σ e _ fun v H1 e1 p => ⟨a, p, by
  cases a with
  | true => exact q _ H1 e1 rfl
  | false => exact h2 rfl H1 σ (e.mono e1) _ fun w H2 e2 p2 => q w H2 (e1.trans e2) p2⟩
theorem ed_notV (h1 : Ed ta ρ (dB a)) : Ed (tNotV ta) ρ (dB (!a)) := fun H σ e _ q => h1 H σ e _ fun v H1 e1 p => ⟨a, p, q _ H1 e1 rfl⟩
theorem ed_if (h : Td t ρ a) (h1 : a = true → Ed ta ρ d) (h2 : a = false → Ed tb ρ d) : Ed (tIf t ta tb) ρ d := fun H σ e Q q => h H σ e _ fun H1 e1 => by
  cases a with
  | true => exact h1 rfl H1 σ (e.mono e1) _ fun w H2 e2 p2 => q w H2 (e1.trans e2) p2
  | false => exact h2 rfl H1 σ (e.mono e1) _ fun w H2 e2 p2 => q w H2 (e1.trans e2) p2
/-- is None: of a thing that is none, of one that is not -/
theorem td_none (h : Ed te ρ dN) : Td (tB (tIsN te)) ρ true := td_B fun H σ e Q q => h H σ e _ fun v H1 e1 p => by
  have p' : v = .non := p
  subst p'
  exact q _ H1 e1 (by show V.bl (decide _) = V.bl true; simp)
theorem ed_isNone (h : Ed te ρ dN) : Ed (tIsN te) ρ (dB true) := fun H σ e Q q => h H σ e _ fun v H1 e1 p => by
  have p' : v = .non := p
  subst p'
  exact q _ H1 e1 (by show V.bl (decide _) = V.bl true; simp)
theorem ed_notNone (h : Ed te ρ dN) : Ed (tNotN te) ρ (dB false) := fun H σ e Q q => h H σ e _ fun v H1 e1 p => by
  have p' : v = .non := p
  subst p'
  exact q _ H1 e1 (by show V.bl (!decide _) = V.bl false; simp)
def NotN (d : Dt) : Prop := ∀ H v, d.P H v → v ≠ .non
theorem notN_V {v : V} (h : v ≠ .non) : NotN (dV v) := fun _ _ e => by
  rw [show _ = v from e]
  exact h
theorem notN_tup {ds : List Dt} : NotN (dTup K ds) := fun _ _ ⟨p, vs, e, _⟩ => by
  rw [e]
  intro z
  cases z
theorem notN_lst {ds : List Dt} : NotN (dLst K ds) := fun _ _ ⟨p, vs, e, _⟩ => by
  rw [e]
  intro z
  cases z
theorem ed_isSome (h : Ed te ρ d) (n : NotN d) : Ed (tIsN te) ρ (dB false) := fun H σ e Q q => h H σ e _ fun v H1 e1 p => q _ H1 e1 (by
  show V.bl (decide _) = V.bl false
  rw [decide_eq_false (n H1 v p)])
theorem ed_notSome (h : Ed te ρ d) (n : NotN d) : Ed (tNotN te) ρ (dB true) := fun H σ e Q q => h H σ e _ fun v H1 e1 p => q _ H1 e1 (by
  show V.bl (!decide _) = V.bl true
  rw [decide_eq_false (n H1 v p)]
  rfl)
/-! arguments, displays -/
theorem eda_nil : EdA tNil ρ [] := fun H _ _ _ q => q [] H (Ex.refl H) True.intro
theorem eda_cons {tr : TA} {ds : List Dt} (h : Ed ta ρ x) (hr : EdA tr ρ ds) : EdA (tCons ta tr) ρ (x :: ds) := fun H σ e Q q =>
  h H σ e _ fun v H1 e1 p1 => hr H1 σ (e.mono e1) _ fun vs H2 e2 p2 => q (v :: vs) H2 (e1.trans e2) ⟨x.mono e2 p1, p2⟩
theorem eda_star {tr : TA} {xs ds : List Dt} (h : Ed ta ρ (dTup K xs)) (hr : EdA tr ρ ds) : EdA (tStar K ta tr) ρ (xs ++ ds) := fun H σ e Q q =>
  h H σ e _ fun v H1 e1 ⟨p, vs, a, b, c⟩ => ⟨p, vs, a, Or.inl b, hr H1 σ (e.mono e1) _ fun us H2 e2 p2 => q (vs ++ us) H2 (e1.trans e2) ((c.mono e2).app p2)⟩
theorem ed_tup {t : TA} {ds : List Dt} (h : EdA t ρ ds) (hl : ds.length ≤ 100000) : Ed (tTup t) ρ (dTup K ds) := fun H σ e Q q =>
  h H σ e _ fun vs H1 e1 p1 => ⟨sz_of (by rw [← p1.len]; exact hl), fun p hp => q _ _ (e1.trans (Ex.new hp)) ⟨p, vs, rfl, st_of upd_same, p1.mono (Ex.new hp)⟩⟩
theorem ed_lst {t : TA} {ds : List Dt} (h : EdA t ρ ds) (hl : ds.length ≤ 100000) : Ed (tLst t) ρ (dLst K ds) := fun H σ e Q q =>
  h H σ e _ fun vs H1 e1 p1 => ⟨sz_of (by rw [← p1.len]; exact hl), fun p hp => q _ _ (e1.trans (Ex.new hp)) ⟨p, vs, rfl, upd_same, p1.mono (Ex.new hp)⟩⟩
theorem ed_cb {r : List V → Hp → VK → Prop} {t : TA} {ds : List Dt} (h : EdA t ρ ds) (hr : CD r ds d) : Ed (tCB r t) ρ d := fun H σ e Q q =>
  h H σ e _ fun vs H1 e1 p1 => hr H1 vs p1 Q fun w H2 e2 p2 => q w H2 (e1.trans e2) p2
/-! fields -/
def FD (K : PySem.W.Frag) (x : Dt) (f : Str) (y : Dt) : Prop := ∀ H v, x.P H v → ∃ a C dx fs w, v = .ref a ∧ H a = some (.ins C dx fs) ∧ Cls K C ∧ NoAttr K C f ∧ fs.lookup f = some w ∧ y.P H w
theorem ed_fld {f : Str} (h : Ed ta ρ x) (hf : FD K x f y) : Ed (tFld K ta f) ρ y := fun H σ e Q q => h H σ e _ fun v H1 e1 p1 => by
  obtain ⟨a, C, dx, fs, w, e2, h2, c, n, l, p2⟩ := hf H1 v p1
  exact ⟨a, C, dx, fs, w, e2, h2, c, n, l, q w H1 e1 p2⟩
/-! calls of defs -/
def spP (R : List Dt → Dt → Prop) : Sp := fun vs H Q _ => ∃ ds d, R ds d ∧ All2 H ds vs ∧ ∀ v H', Ex H H' → d.P H' v → Q v H'
theorem ed_call {R : List Dt → Dt → Prop} {E : XK} {t : TA} {ds : List Dt} (h : EdA t ρ ds) (hr : R ds d) : Ed (tCall (spP R) [] E t) ρ d := fun H σ e Q q =>
  h H σ e _ fun vs H1 e1 p1 => ⟨ds, d, hr, by rw [List.append_nil]; exact p1, fun v H2 e2 p2 => q v H2 (e1.trans e2) p2⟩
/-- an instance of C that has no attribute m of its own -/
def MD (C : Addr) (m : Str) (x : Dt) : Prop := ∀ H v, x.P H v → ∃ a dx fs, v = .ref a ∧ H a = some (.ins C dx fs) ∧ fs.lookup m = none
theorem ed_meth {R : List Dt → Dt → Prop} {E : XK} {t : TA} {ds : List Dt} {C : Addr} {m : Str} (h : Ed ta ρ x) (hm : MD C m x) (ht : EdA t ρ ds) (hr : R (x :: ds) d) : Ed (tMeth C m (spP R) [] E ta t) ρ d := fun H σ e Q q =>
  h H σ e _ fun v H1 e1 p1 => by
    obtain ⟨a, dx, fs, e2, h2, n⟩ := hm H1 v p1
    exact ⟨a, dx, fs, e2, h2, n, ht H1 σ (e.mono e1) _ fun vs H2 e2 p2 => ⟨x :: ds, d, hr, by rw [List.append_nil]; exact ⟨x.mono e2 p1, p2⟩, fun w H3 e3 p3 => q w H3 ((e1.trans e2).trans e3) p3⟩⟩
/-! subscripts and slices -/
theorem atI_ds {H : Hp} {ds : List Dt} {vs : List V} {i : Int} (h : All2 H ds vs) (e : atI ds i = some d) : ∃ v, atI vs i = some v ∧ d.P H v := by
  unfold atI at e ⊢
  rw [← h.len]
  cases q : ixN ds.length i with
  | none =>
    rw [q] at e
    cases e
  | some j =>
    rw [q] at e
    exact h.get e
theorem rd_ixT {ds : List Dt} (e : atI ds i = some d) : RD (rIxT K) (dTup K ds) (dI i) d := fun H u v ⟨p, vs, a, b, c⟩ q Q k => by
  obtain ⟨w, h1, h2⟩ := atI_ds c e
  exact ⟨p, vs, i, w, a, q, b, h1, k w H (Ex.refl H) h2⟩
theorem rd_ixL {ds : List Dt} (e : atI ds i = some d) : RD (rIxL K) (dLst K ds) (dI i) d := fun H u v ⟨p, vs, a, b, c⟩ q Q k => by
  obtain ⟨w, h1, h2⟩ := atI_ds c e
  exact ⟨p, vs, i, w, a, q, sq_of b, h1, k w H (Ex.refl H) h2⟩
theorem rd_ixS {s : Str} {n : Nat} (hs : s.length ≤ 100000) (e : atI s.cps.toList i = some n) : RD rIxS (dS s) (dI i) (dS ⟨#[n]⟩) := fun H u v p q Q k => ⟨s, i, n, p, q, sz_of hs, e, k _ H (Ex.refl H) rfl⟩
theorem ed_ixT {ds : List Dt} (ha : Ed ta ρ (dTup K ds)) (hb : Ed tb ρ (dI i)) (e : atI ds i = some d) : Ed (tOp (rIxT K) ta tb) ρ d := ed_op ha hb (rd_ixT e)
theorem ed_ixL {ds : List Dt} (ha : Ed ta ρ (dLst K ds)) (hb : Ed tb ρ (dI i)) (e : atI ds i = some d) : Ed (tOp (rIxL K) ta tb) ρ d := ed_op ha hb (rd_ixL e)
theorem ed_ixS {s : Str} {n : Nat} (ha : Ed ta ρ (dS s)) (hb : Ed tb ρ (dI i)) (hs : s.length ≤ 100000) (e : atI s.cps.toList i = some n) : Ed (tOp rIxS ta tb) ρ (dS ⟨#[n]⟩) := ed_op ha hb (rd_ixS hs e)
theorem edo_none : EdO tNoPart ρ none := fun H _ _ _ q => q H (Ex.refl H)
theorem edo_some (h : Ed te ρ (dI i)) : EdO (tPart te) ρ (some i) := fun H σ e Q q => h H σ e _ fun v H1 e1 p => ⟨i, p, q H1 e1⟩
/-- the items of a slice -/
def cutD {α : Type} (xs : List α) (lo hi : Option Int) : List α := (xs.drop (HT.sIx xs.length 0 lo)).take (HT.sIx xs.length xs.length hi - HT.sIx xs.length 0 lo)
theorem cut_all2 {H : Hp} {ds : List Dt} {vs : List V} (h : All2 H ds vs) (lo hi : Option Int) : All2 H (cutD ds lo hi) (cutV vs lo hi) := by
  unfold cutD cutV
  rw [h.len]
  exact (h.drop _).take _
theorem ed_slL {tl th : TO} {ds : List Dt} {lo hi : Option Int} (h : Ed te ρ (dLst K ds)) (h1 : EdO tl ρ lo) (h2 : EdO th ρ hi) : Ed (tSl (rSlL K) te tl th) ρ (dLst K (cutD ds lo hi)) := fun H σ e Q q =>
  h H σ e _ fun v H1 e1 ⟨p, vs, a, b, c⟩ => h1 H1 σ (e.mono e1) _ fun H2 e2 => h2 H2 σ ((e.mono e1).mono e2) _ fun H3 e3 =>
    ⟨p, vs, a, sq_of ((e2.trans e3) _ _ b), fun n hn => q _ _ (((e1.trans e2).trans e3).trans (Ex.new hn)) ⟨n, cutV vs lo hi, rfl, upd_same, cut_all2 (c.mono ((e2.trans e3).trans (Ex.new hn))) lo hi⟩⟩
end
end Sl
/-! Sl2: built-ins, walks, comprehensions, statements, a def's promise. -/
namespace Sl
open PySem PySem.Spec PyProof.Rows L2 StX RZ
open Evl (Ex ex_l ex_t ex_rd sq_of st_of sz_of sz_lt fresh_back)
section
variable {K : PySem.W.Frag} {ρ ρ' ρ1 : Rho} {ta tb tc te tx : TE} {t u : TT} {x y z d : Dt} {r r' : R2} {i j k : Int} {a b c : Bool}
theorem all2_1 {H : Hp} {d : Dt} {vs : List V} (h : All2 H [d] vs) : ∃ v, vs = [v] ∧ d.P H v := match vs, h with
  | [v], h => ⟨v, rfl, h.1⟩
  | [], h => h.elim
  | _ :: _ :: _, h => h.2.elim
theorem all2_2 {H : Hp} {d e : Dt} {vs : List V} (h : All2 H [d, e] vs) : ∃ v w, vs = [v, w] ∧ d.P H v ∧ e.P H w := match vs, h with
  | [v, w], h => ⟨v, w, rfl, h.1, h.2.1⟩
  | [], h => h.elim
  | [_], h => h.2.elim
  | _ :: _ :: _ :: _, h => h.2.2.elim
theorem all2_3 {H : Hp} {d e f : Dt} {vs : List V} (h : All2 H [d, e, f] vs) : ∃ v w u, vs = [v, w, u] ∧ d.P H v ∧ e.P H w ∧ f.P H u := match vs, h with
  | [v, w, u], h => ⟨v, w, u, rfl, h.1, h.2.1, h.2.2.1⟩
  | [], h => h.elim
  | [_], h => h.2.elim
  | [_, _], h => h.2.2.elim
  | _ :: _ :: _ :: _ :: _, h => h.2.2.2.elim
/-! ### built-ins -/
abbrev rLenS (K : PySem.W.Frag) : List V → Hp → VK → Prop := fun xs H Q => ∃ p ys, xs = [.ref p] ∧ (SqL K H p ys ∨ SqT K H p ys) ∧ Q (.int ys.length) H
theorem cd_lenT {ds : List Dt} : CD (rLenS K) [dTup K ds] (dI ds.length) := fun H vs h Q q => by
  obtain ⟨v, rfl, p, us, rfl, b, c⟩ := all2_1 h
  exact ⟨p, us, rfl, Or.inr b, q _ H (Ex.refl H) (by rw [c.len]; rfl)⟩
theorem cd_lenL {ds : List Dt} : CD (rLenS K) [dLst K ds] (dI ds.length) := fun H vs h Q q => by
  obtain ⟨v, rfl, p, us, rfl, b, c⟩ := all2_1 h
  exact ⟨p, us, rfl, Or.inl (sq_of b), q _ H (Ex.refl H) (by rw [c.len]; rfl)⟩
abbrev rLenStr : List V → Hp → VK → Prop := fun xs H Q => ∃ z : Str, xs = [.str z] ∧ z.length ≤ sizeLine ∧ Q (.int z.length) H
theorem cd_lenS {s : Str} (h : s.length ≤ 100000) : CD rLenStr [dS s] (dI s.length) := fun H vs h' Q q => by
  obtain ⟨v, rfl, e⟩ := all2_1 h'
  have e' : v = .str s := e
  subst e'
  exact ⟨s, rfl, sz_of h, q _ H (Ex.refl H) rfl⟩
abbrev rAbs : List V → Hp → VK → Prop := fun xs H Q => ∃ i, xs = [.int i] ∧ Q (.int (if i < 0 then -i else i)) H
theorem cd_abs : CD rAbs [dI i] (dI (if i < 0 then -i else i)) := fun H vs h' Q q => by
  obtain ⟨v, rfl, e⟩ := all2_1 h'
  have e' : v = .int i := e
  subst e'
  exact ⟨i, rfl, q _ H (Ex.refl H) rfl⟩
abbrev rInt1 : List V → Hp → VK → Prop := fun xs H Q => (∃ i, xs = [.int i] ∧ Q (.int i) H) ∨ ∃ k, xs = [.bl k] ∧ Q (.int (if k then 1 else 0)) H
theorem cd_int : CD rInt1 [dI i] (dI i) := fun H vs h' Q q => by
  obtain ⟨v, rfl, e⟩ := all2_1 h'
  have e' : v = .int i := e
  subst e'
  exact .inl ⟨i, rfl, q _ H (Ex.refl H) rfl⟩
theorem cd_intB : CD rInt1 [dB a] (dI (if a then 1 else 0)) := fun H vs h' Q q => by
  obtain ⟨v, rfl, e⟩ := all2_1 h'
  have e' : v = .bl a := e
  subst e'
  exact .inr ⟨a, rfl, q _ H (Ex.refl H) rfl⟩
abbrev rIntS : List V → Hp → VK → Prop := fun xs H Q => ∃ a n, xs = [.str a] ∧ PySem.intText? a = some n ∧ a.length ≤ 640 ∧ Q (.int n) H
theorem cd_intS {s : Str} (h : PySem.intText? s = some i) (h' : s.length ≤ 640) : CD rIntS [dS s] (dI i) := fun H vs h'' Q q => by
  obtain ⟨v, rfl, e⟩ := all2_1 h''
  have e' : v = .str s := e
  subst e'
  exact ⟨s, i, rfl, h, h', q _ H (Ex.refl H) rfl⟩
abbrev rStrI : List V → Hp → VK → Prop := fun xs H Q => ∃ i : Int, xs = [.int i] ∧ i.natAbs.log2 < 1920 ∧ Q (.str (toString i)) H
theorem cd_strI (h : i.natAbs.log2 < 1920) : CD rStrI [dI i] (dS (toString i)) := fun H vs h'' Q q => by
  obtain ⟨v, rfl, e⟩ := all2_1 h''
  have e' : v = .int i := e
  subst e'
  exact ⟨i, rfl, h, q _ H (Ex.refl H) rfl⟩
abbrev rMax2 : List V → Hp → VK → Prop := fun xs H Q => ∃ i j, xs = [.int i, .int j] ∧ Q (.int (if j > i then j else i)) H
abbrev rMin2 : List V → Hp → VK → Prop := fun xs H Q => ∃ i j, xs = [.int i, .int j] ∧ Q (.int (if j < i then j else i)) H
theorem cd_max2 : CD rMax2 [dI i, dI j] (dI (if j > i then j else i)) := fun H vs h Q q => by
  obtain ⟨v, w, rfl, e1, e2⟩ := all2_2 h
  have e1' : v = .int i := e1
  have e2' : w = .int j := e2
  subst e1' e2'
  exact ⟨i, j, rfl, q _ H (Ex.refl H) rfl⟩
theorem cd_min2 : CD rMin2 [dI i, dI j] (dI (if j < i then j else i)) := fun H vs h Q q => by
  obtain ⟨v, w, rfl, e1, e2⟩ := all2_2 h
  have e1' : v = .int i := e1
  have e2' : w = .int j := e2
  subst e1' e2'
  exact ⟨i, j, rfl, q _ H (Ex.refl H) rfl⟩
abbrev rTupOf (K : PySem.W.Frag) : List V → Hp → VK → Prop := fun xs H Q => ∃ p ys, xs = [.ref p] ∧ ((SqL K H p ys ∧ ∀ l, H l = none → Q (.ref l) (upd H l (.tup ys))) ∨ (SqT K H p ys ∧ Q (.ref p) H))
theorem cd_tupL {ds : List Dt} : CD (rTupOf K) [dLst K ds] (dTup K ds) := fun H vs h Q q => by
  obtain ⟨v, rfl, p, us, rfl, b, c⟩ := all2_1 h
  exact ⟨p, us, rfl, Or.inl ⟨sq_of b, fun l hl => q _ _ (Ex.new hl) ⟨l, us, rfl, st_of upd_same, c.mono (Ex.new hl)⟩⟩⟩
abbrev rListOf (K : PySem.W.Frag) : List V → Hp → VK → Prop := fun xs H Q => ∃ p ys, xs = [.ref p] ∧ (SqL K H p ys ∨ SqT K H p ys) ∧ ∀ l, H l = none → Q (.ref l) (upd H l (.lst ys))
theorem ints_all2 {H : Hp} {ns : List Int} {vs : List V} (h : All2 H (ns.map fun n => dI n) vs) : vs = ns.map V.int := All2.vals V.int h
theorem cd_sum {ns : List Int} : CD (rSum K) [dLst K (ns.map fun n => dI n)] (dI ns.sum) := fun H vs h Q q => by
  obtain ⟨v, rfl, p, us, rfl, b, c⟩ := all2_1 h
  rw [ints_all2 c] at b
  exact ⟨p, ns, rfl, sq_of b, q _ H (Ex.refl H) rfl⟩
theorem cd_all {bs : List Bool} : CD (rAll K) [dLst K (bs.map fun n => dB n)] (dB (bs.all id)) := fun H vs h Q q => by
  obtain ⟨v, rfl, p, us, rfl, b, c⟩ := all2_1 h
  rw [All2.vals V.bl c] at b
  exact ⟨p, bs, rfl, sq_of b, q _ H (Ex.refl H) rfl⟩
theorem cd_any {bs : List Bool} : CD (rAny K) [dLst K (bs.map fun n => dB n)] (dB (bs.any id)) := fun H vs h Q q => by
  obtain ⟨v, rfl, p, us, rfl, b, c⟩ := all2_1 h
  rw [All2.vals V.bl c] at b
  exact ⟨p, bs, rfl, sq_of b, q _ H (Ex.refl H) rfl⟩
/-- isinstance(x, T), T a built-in class: x's type is told -/
def TyD (K : PySem.W.Frag) (x : Dt) (T : String) : Prop := ∀ H v, x.P H v → TyX K H v (.type T)
theorem tyd_I : TyD K (dI i) "int" := fun H v h => by rw [show v = .int i from h]; exact .base (.int _)
theorem tyd_B : TyD K (dB a) "bool" := fun H v h => by rw [show v = .bl a from h]; exact .base (.bl _)
theorem tyd_S {s : Str} : TyD K (dS s) "str" := fun H v h => by rw [show v = .str s from h]; exact .base (.str _)
theorem tyd_N : TyD K dN "NoneType" := fun H v h => by rw [show v = .non from h]; exact .base .non
theorem tyd_T {ds : List Dt} : TyD K (dTup K ds) "tuple" := fun H v ⟨p, us, e, b, c⟩ => by
  subst e
  rcases b with (b | ⟨o, b⟩) | b
  · exact .base (.tup b)
  · exact .fTuple b
  · obtain ⟨o, its, n, h1, h2, _⟩ := b
    exact .kTuple h1 h2
theorem cd_isi {T C : String} (h : TyD K x T) (e : kitB T C = some a) : CD (rIsi K) [x, dV (.ty C)] (dB a) := fun H vs hh Q q => by
  obtain ⟨v, w, rfl, e1, e2⟩ := all2_2 hh
  have e2' : w = .ty C := e2
  subst e2'
  exact ⟨v, .ty C, .type T, .type C, a, rfl, .ty C, h H v e1, kit_ty e, q _ H (Ex.refl H) rfl⟩
/-! ### is, of bools -/
theorem ed_isB (ha : Ed ta ρ (dB a)) (hb : Ed tb ρ (dB b)) : Ed (tOp rIsB ta tb) ρ (dB (decide (a = b))) := ed_op ha hb fun H u v p q Q kk => ⟨a, b, p, q, kk _ H (Ex.refl H) rfl⟩
theorem ed_notB (ha : Ed ta ρ (dB a)) (hb : Ed tb ρ (dB b)) : Ed (tOp rNotB ta tb) ρ (dB (!decide (a = b))) := ed_op ha hb fun H u v p q Q kk => ⟨a, b, p, q, kk _ H (Ex.refl H) rfl⟩
/-! ### a slice of a tuple -/
theorem cutD_whole {α : Type} (xs : List α) {lo hi : Option Int} (h : HT.sIx xs.length 0 lo = 0 ∧ HT.sIx xs.length xs.length hi = xs.length) : cutD xs lo hi = xs := by
  unfold cutD
  rw [h.1, h.2, List.drop_zero, Nat.sub_zero, List.take_length]
theorem ed_slT {tl th : TO} {ds : List Dt} {lo hi : Option Int} (h : Ed te ρ (dTup K ds)) (h1 : EdO tl ρ lo) (h2 : EdO th ρ hi) : Ed (tSl (rSlA K) te tl th) ρ (dTup K (cutD ds lo hi)) := fun H σ e Q q =>
  h H σ e _ fun v H1 e1 ⟨p, vs, a, b, c⟩ => h1 H1 σ (e.mono e1) _ fun H2 e2 => h2 H2 σ ((e.mono e1).mono e2) _ fun H3 e3 =>
    ⟨p, vs, a, ex_t (e2.trans e3) b, (fun hw => q _ _ ((e1.trans e2).trans e3) ⟨p, vs, a ▸ rfl, ex_t (e2.trans e3) b, by
      rw [cutD_whole ds (by rw [c.len]; exact hw)]
      exact c.mono (e2.trans e3)⟩), fun _ n hn => q _ _ (((e1.trans e2).trans e3).trans (Ex.new hn)) ⟨n, cutV vs lo hi, rfl, st_of upd_same, cut_all2 (c.mono ((e2.trans e3).trans (Ex.new hn))) lo hi⟩⟩
/-- t + u, tuples -/
theorem ed_catT {ds es : List Dt} (ha : Ed ta ρ (dTup K ds)) (hb : Ed tb ρ (dTup K es)) (hl : ds.length + es.length ≤ 100000) : Ed (tOp (rCatA K) ta tb) ρ (dTup K (ds ++ es)) := ed_op ha hb fun H u v ⟨p, vs, a1, b1, c1⟩ ⟨q, us, a2, b2, c2⟩ Q k => by
  have h1 := c1.len
  have h2 := c2.len
  refine ⟨p, q, vs, us, a1, a2, b1, b2, sz_of (by omega), fun e => ?_, fun e e' => ?_, fun e e' n hn => ?_⟩
  · refine k _ H (Ex.refl H) ⟨q, us, rfl, b2, ?_⟩
    subst e
    have : ds = [] := List.eq_nil_of_length_eq_zero (by simpa using h1)
    subst this
    exact c2
  · refine k _ H (Ex.refl H) ⟨p, vs, rfl, b1, ?_⟩
    subst e'
    have : es = [] := List.eq_nil_of_length_eq_zero (by simpa using h2)
    subst this
    rw [List.append_nil]
    exact c1
  · exact k _ _ (Ex.new hn) ⟨n, vs ++ us, rfl, st_of upd_same, (c1.app c2).mono (Ex.new hn)⟩
/-! ### what is walked -/
def ItOk (J : It) (ds : List Dt) (H : Hp) : Prop := ∀ (i : Nat) H2, Ex H H2 → (∀ d, ds[i]? = some d → J.go i H2 ∧ ∀ x H3, J.yld i H2 x H3 → Ex H2 H3 ∧ d.P H3 x) ∧ (i = ds.length → J.stop i H2)
def Wd (wi : TI) (ρ : Rho) (ds : List Dt) : Prop := ∀ H σ, EnvOk H ρ σ → ∀ R : It → Hp → Prop, (∀ J H1, Ex H H1 → ItOk J ds H1 → R J H1) → wi σ H R
theorem itok_of {J : It} {n : Nat} {G : Hp → Prop} {Y : Nat → Hp → V → Hp → Prop} {ds : List Dt} {H : Hp} (w : Walk J n G Y) (hn : ds.length = n) (hG : ∀ H2, Ex H H2 → G H2) (hY : ∀ i d H2 x H3, Ex H H2 → ds[i]? = some d → Y i H2 x H3 → Ex H2 H3 ∧ d.P H3 x) : ItOk J ds H := fun i H2 e =>
  ⟨fun d hd => ⟨w.goes i H2 (by rw [← hn]; exact (List.getElem?_eq_some_iff.mp hd).1) (hG H2 e), fun x H3 y => hY i d H2 x H3 e hd (w.yields i H2 x H3 (by rw [← hn]; exact (List.getElem?_eq_some_iff.mp hd).1) (hG H2 e) y)⟩, fun hi => by
    rw [hi, hn]
    exact w.stops H2 (hG H2 e)⟩
theorem yat_ok {ds : List Dt} {vs : List V} {H H2 H3 : Hp} {i : Nat} {d : Dt} {x : V} (c : All2 H ds vs) (e : Ex H H2) (hd : ds[i]? = some d) (h : YAt vs i H2 x H3) : Ex H2 H3 ∧ d.P H3 x := by
  obtain ⟨rfl, hx⟩ := h
  obtain ⟨v, hv, p⟩ := (c.mono e).get hd
  rw [hv] at hx
  cases hx
  exact ⟨Ex.refl _, p⟩
theorem wd_list {tl : TE} {ds : List Dt} (h : Ed tl ρ (dLst K ds)) : Wd (iList K tl) ρ ds := fun H σ e R q => h H σ e _ fun v H1 e1 ⟨p, vs, a, b, c⟩ =>
  ⟨p, a, ⟨vs, sq_of b⟩, q _ H1 e1 (itok_of (walk_list (K := K) (a := p) (xs := vs)) c.len (fun H2 e2 => sq_of (e2 _ _ b)) fun i d H2 x H3 e2 hd y => yat_ok c e2 hd y)⟩
theorem wd_tup {tl : TE} {ds : List Dt} (h : Ed tl ρ (dTup K ds)) : Wd (iTup K tl) ρ ds := fun H σ e R q => h H σ e _ fun v H1 e1 ⟨p, vs, a, b, c⟩ =>
  ⟨p, a, ⟨vs, b⟩, q _ H1 e1 (itok_of (walk_tup (K := K) (a := p) (xs := vs)) c.len (fun H2 e2 => ex_t e2 b) fun i d H2 x H3 e2 hd y => yat_ok c e2 hd y)⟩
def intsFrom (lo : Int) (n : Nat) : List Dt := (List.range n).map fun (k : Nat) => dI (lo + k)
theorem yfn_ok {lo : Int} {n : Nat} {H2 H3 : Hp} {i : Nat} {d : Dt} {x : V} (hd : (intsFrom lo n)[i]? = some d) (h : YFn (fun i => .int (lo + i)) i H2 x H3) : Ex H2 H3 ∧ d.P H3 x := by
  obtain ⟨rfl, hx⟩ := h
  unfold intsFrom at hd
  rw [List.getElem?_map] at hd
  cases q : (List.range n)[i]? with
  | none =>
    rw [q] at hd
    cases hd
  | some m =>
    rw [q] at hd
    cases hd
    have hm : m = i := by
      have := List.getElem?_eq_some_iff.mp q
      obtain ⟨h1, h2⟩ := this
      rw [List.getElem_range] at h2
      exact h2.symm
    subst hm
    exact ⟨Ex.refl _, hx⟩
theorem wd_range1 {n : Nat} (h : EdA (tCons ta tNil) ρ [dI (n : Int)]) (hn : n ≤ 100000) : Wd (iRng1 (tCons ta tNil)) ρ (intsFrom 0 n) := fun H σ e R q => h H σ e _ fun vs H1 e1 p1 => by
  obtain ⟨v, rfl, p⟩ := all2_1 p1
  have p' : v = .int n := p
  subst p'
  refine ⟨(n : Int), rfl, by omega, by omega, q _ H1 e1 ?_⟩
  rw [show ((n : Int)).toNat = n by simp]
  exact itok_of (walk_range (lo := 0) (n := n)) (by simp [intsFrom]) (fun _ _ => trivial) fun i d H2 x H3 e2 hd y => yfn_ok hd y
theorem wd_range1N (h : EdA (tCons ta tNil) ρ [dI i]) (hn : -100000 ≤ i ∧ i ≤ 0) : Wd (iRng1 (tCons ta tNil)) ρ [] := fun H σ e R q => h H σ e _ fun vs H1 e1 p1 => by
  obtain ⟨v, rfl, p⟩ := all2_1 p1
  have p' : v = .int i := p
  subst p'
  refine ⟨i, rfl, by omega, by omega, q _ H1 e1 ?_⟩
  rw [show (i).toNat = 0 by omega]
  exact itok_of (walk_range (lo := 0) (n := 0)) rfl (fun _ _ => trivial) fun i d H2 x H3 e2 hd y => by simp at hd
theorem wd_range2 {lo : Int} {n : Nat} (h : EdA (tCons ta (tCons tb tNil)) ρ [dI lo, dI (lo + n)]) (hn : n ≤ 100000 ∧ -100000 ≤ lo ∧ lo ≤ 100000) : Wd (iRng2 (tCons ta (tCons tb tNil))) ρ (intsFrom lo n) := fun H σ e R q => h H σ e _ fun vs H1 e1 p1 => by
  obtain ⟨v, w, rfl, p, p2⟩ := all2_2 p1
  have p' : v = .int lo := p
  have p2' : w = .int (lo + n) := p2
  subst p' p2'
  refine ⟨lo, lo + n, rfl, ⟨by omega, by omega, by omega, by omega⟩, q _ H1 e1 ?_⟩
  rw [show (lo + (n : Int) - lo).toNat = n by omega]
  exact itok_of (walk_range (lo := lo) (n := n)) (by simp [intsFrom]) (fun _ _ => trivial) fun i d H2 x H3 e2 hd y => yfn_ok hd y
/-- a text's signs -/
def signsOf (s : Str) : List Dt := s.cps.toList.map fun c => dS ⟨#[c]⟩
theorem wd_str {s : Str} (h : Ed te ρ (dS s)) : Wd (iStr te) ρ (signsOf s) := fun H σ e R q => h H σ e _ fun v H1 e1 p => ⟨s, p, q _ H1 e1 (itok_of (walk_str (z := s)) (by simp [signsOf]) (fun _ _ => trivial) fun i d H2 x H3 e2 hd y => by
  obtain ⟨rfl, c, hc, hx⟩ := y
  unfold signsOf at hd
  rw [List.getElem?_map, Array.getElem?_toList, hc] at hd
  cases hd
  exact ⟨Ex.refl _, hx⟩)⟩
theorem pair_ok {f g : Nat → Option V} {i : Nat} {H2 H3 : Hp} {x : V} {d e : Dt} (hf : ∀ v, f i = some v → d.P H2 v) (hg : ∀ v, g i = some v → e.P H2 v) (h : YPair f g i H2 x H3) : Ex H2 H3 ∧ (dTup K [d, e]).P H3 x := by
  obtain ⟨T, v, w, rfl, hT, rfl, h1, h2⟩ := h
  have e := Ex.new (o := .tup [v, w]) hT
  exact ⟨e, T, [v, w], rfl, st_of upd_same, d.mono e (hf v h1), Dt.mono _ e (hg w h2), True.intro⟩
/-- enumerate: a new pair a turn -/
def numbered (K : PySem.W.Frag) (ds : List Dt) : List Dt := ds.zipIdx.map fun p => dTup K [dI (p.2 : Int), p.1]
theorem numbered_at {ds : List Dt} {i : Nat} {d : Dt} (h : (numbered K ds)[i]? = some d) : ∃ e, ds[i]? = some e ∧ d = dTup K [dI (i : Int), e] := by
  unfold numbered at h
  rw [List.getElem?_map, List.getElem?_zipIdx] at h
  cases q : ds[i]? with
  | none =>
    rw [q] at h
    cases h
  | some e =>
    rw [q] at h
    refine ⟨e, rfl, ?_⟩
    have h2 := Option.some.inj h
    rw [← h2]
    simp
theorem numbered_len {ds : List Dt} : (numbered K ds).length = ds.length := by simp [numbered]
theorem wd_enumL {ds : List Dt} (h : EdA (tCons ta tNil) ρ [dLst K ds]) : Wd (iEnum K (tCons ta tNil)) ρ (numbered K ds) := fun H σ e R q => h H σ e _ fun vs H1 e1 p1 => by
  obtain ⟨v, rfl, p, us, rfl, b, c⟩ := all2_1 p1
  refine ⟨p, us, rfl, sq_of b, q _ H1 e1 (itok_of (walk_enum (K := K) (a := p) (xs := us)) (by rw [numbered_len, c.len]) (fun H2 e2 => sq_of (e2 _ _ b)) fun i d H2 x H3 e2 hd y => ?_)⟩
  obtain ⟨e0, h0, rfl⟩ := numbered_at hd
  refine pair_ok (fun v hv => by cases hv; rfl) (fun v hv => ?_) y
  obtain ⟨w, hw, pw⟩ := (c.mono e2).get h0
  rw [hv] at hw
  cases hw
  exact pw
/-! ### targets -/
def Gd (g : TG) (d : Dt) (js : List Nat) (ρ ρ1 : Rho) : Prop := ∀ v H σ, d.P H v → EnvOk H ρ σ → ∀ Q : L2.St → Hp → Prop, (∀ σ', EnvOk H ρ1 σ' → (∀ vs : List Nat, (∀ j ∈ js, j ∈ vs) → L2.wipe σ' vs = L2.wipe σ vs) → Q σ' H) → g v σ H Q
theorem wipe_set {σ : L2.St} {j : Nat} {x : Option V} : ∀ {vs : List Nat}, j ∈ vs → L2.wipe (σ.set j x) vs = L2.wipe σ vs
  | v :: vs, h => by
    show (L2.wipe (σ.set j x) vs).set v none = (L2.wipe σ vs).set v none
    by_cases c : j ∈ vs
    · rw [wipe_set c]
    · have e : j = v := by
        rcases List.mem_cons.mp h with z | z
        · exact z
        · exact absurd z c
      subst e
      have : ∀ (us : List Nat) (τ : L2.St), (L2.wipe (τ.set j x) us).set j none = (L2.wipe τ us).set j none := fun us => by
        induction us with
        | nil =>
          intro τ
          show (τ.set j x).set j none = τ.set j none
          rw [List.set_set]
        | cons w us ih =>
          intro τ
          show ((L2.wipe (τ.set j x) us).set w none).set j none = ((L2.wipe τ us).set w none).set j none
          by_cases q : w = j
          · subst q
            rw [List.set_set, List.set_set]
            exact ih τ
          · rw [List.set_comm _ _ q, ih τ, List.set_comm _ _ (fun z => q z.symm)]
      exact this vs σ
theorem gd_name {j : Nat} : Gd (gName j) d [j] ρ (ρ.set j (some d)) := fun v H σ p e Q q => q _ (e.set p j) fun vs h => wipe_set (h j List.mem_cons_self)
def GdS (g : TGs) (ds : List Dt) (js : List Nat) (ρ ρ1 : Rho) : Prop := ∀ vs H σ, All2 H ds vs → EnvOk H ρ σ → ∀ Q : L2.St → Hp → Prop, (∀ σ', EnvOk H ρ1 σ' → (∀ vs : List Nat, (∀ j ∈ js, j ∈ vs) → L2.wipe σ' vs = L2.wipe σ vs) → Q σ' H) → g vs σ H Q
theorem gds_nil : GdS gNil [] [] ρ ρ := fun vs H σ p e Q q => by
  cases vs with
  | nil => exact ⟨rfl, q σ e fun _ _ => rfl⟩
  | cons _ _ => exact p.elim
theorem gds_cons {g : TG} {gs : TGs} {ds : List Dt} {js js' : List Nat} (h : Gd g d js ρ ρ1) (hs : GdS gs ds js' ρ1 ρ') : GdS (gCons g gs) (d :: ds) (js ++ js') ρ ρ' := fun vs H σ p e Q q => by
  cases vs with
  | nil => exact p.elim
  | cons v vs =>
    exact ⟨v, vs, rfl, h v H σ p.1 e _ fun σ' e' w' => hs vs H σ' p.2 e' _ fun σ'' e'' w'' => q σ'' e'' fun us hu => (w'' us fun j hj => hu j (List.mem_append_right _ hj)).trans (w' us fun j hj => hu j (List.mem_append_left _ hj))⟩
theorem gd_tup {gs : TGs} {ds : List Dt} {js : List Nat} (h : GdS gs ds js ρ ρ') : Gd (gTup K ds.length gs) (dTup K ds) js ρ ρ' := fun v H σ ⟨p, vs, a, b, c⟩ e Q q =>
  ⟨p, vs, a, b, c.len.symm, h vs H σ c e Q q⟩
/-! ### comprehensions -/
theorem ed_lc {α : Type} {wi : TI} {g : TG} {tt : TT} {vs js : List Nat} (xs : List α) (φ : α → Dt) (p : α → Bool) (ψ : α → Dt) (hw : Wd wi ρ (xs.map φ)) (hz : xs.length ≤ 40000) (hj : ∀ j ∈ js, j ∈ vs) (hi : ∀ a ∈ xs, p a = true → Imm (ψ a))
    (ht : ∀ a ∈ xs, ∃ ρ1, Gd g (φ a) js (wpR ρ vs) ρ1 ∧ Td tt ρ1 (p a) ∧ (p a = true → Ed te ρ1 (ψ a))) : Ed (tLc wi g tt te vs) ρ (dLst K ((xs.filter p).map ψ)) := fun H σ e Q q => hw H σ e _ fun J H1 e1 ok D hD => by
  have eD : ∀ {H2 : Hp} {acc : List V}, Ex H1 H2 → Ex H1 (upd H2 D (.lst acc)) := fun e2 => Ex.mut e2 hD
  refine ⟨fun i m H2 => m = xs.length - i ∧ i ≤ xs.length ∧ Ex H1 H2 ∧ ∃ acc, H2 D = some (.lst acc) ∧ All2 H2 (((xs.take i).filter p).map ψ) acc, ⟨_, rfl, Nat.zero_le _, Ex.new hD, [], upd_same, True.intro⟩, ?_⟩
  rintro i m H2 ⟨rfl, hi2, e2, acc, hacc, hall⟩
  by_cases hlt : i < xs.length
  · right
    have hx : xs[i]? = some xs[i] := List.getElem?_eq_getElem hlt
    have hφ : (xs.map φ)[i]? = some (φ xs[i]) := by rw [List.getElem?_map, hx]; rfl
    have hm : xs[i] ∈ xs := List.getElem_mem hlt
    obtain ⟨go, yl⟩ := (ok i H2 e2).1 _ hφ
    refine ⟨go, fun H' => i + 1 ≤ xs.length ∧ Ex H1 H' ∧ ∃ acc, H' D = some (.lst acc) ∧ All2 H' (((xs.take (i + 1)).filter p).map ψ) acc, fun H' ⟨h1, h2, h3⟩ => ⟨xs.length - (i + 1), by omega, rfl, h1, h2, h3⟩, fun x H3 y => ?_⟩
    obtain ⟨e3, px⟩ := yl x H3 y
    obtain ⟨ρ1, hg, htt, hte⟩ := ht _ hm
    have etake : xs.take (i + 1) = xs.take i ++ [xs[i]] := by rw [List.take_add_one, hx]; rfl
    refine hg x H3 (L2.wipe σ vs) px (((e.mono e1).mono (e2.trans e3)).wipe vs) _ fun σ2 en w2 => ⟨?_, ?_⟩
    · have := w2 vs hj
      rw [this]
      exact wipe_wipe
    · refine htt H3 σ2 en _ fun H4 e4 => ?_
      have e34 := e3.trans e4
      cases hp : p xs[i] with
      | true =>
        rw [if_pos rfl]
        refine hte hp H4 σ2 (en.mono e4) _ fun v H5 e5 pv => ?_
        have e25 := e34.trans e5
        have h5 := e25 D _ hacc
        refine ⟨acc, h5, sz_lt ?_, hlt, eD (e2.trans e25), acc ++ [v], upd_same, ?_⟩
        · have := hall.len
          rw [List.length_map] at this
          have := List.length_filter_le p (xs.take i)
          rw [List.length_take] at this
          omega
        · have kx : Kx H5 (upd H5 D (.lst (acc ++ [v]))) := Kx.set h5
          rw [etake, List.filter_append, List.map_append]
          have ef : (List.filter p [xs[i]]).map ψ = [ψ xs[i]] := by rw [List.filter_cons, if_pos hp]; rfl
          rw [ef]
          refine All2.imm kx (fun d hd => ?_) ((hall.mono e25).app ⟨pv, True.intro⟩)
          rcases List.mem_append.mp hd with hd | hd
          · obtain ⟨a, ha, rfl⟩ := List.mem_map.mp hd
            obtain ⟨ha1, ha2⟩ := List.mem_filter.mp ha
            exact hi a (List.mem_of_mem_take ha1) ha2
          · rw [List.mem_singleton.mp hd]
            exact hi _ hm hp
      | false =>
        rw [if_neg (by decide)]
        refine ⟨hlt, e2.trans e34, acc, e34 D _ hacc, ?_⟩
        rw [etake, List.filter_append, List.map_append]
        have ef : (List.filter p [xs[i]]).map ψ = [] := by rw [List.filter_cons, if_neg (by rw [hp]; decide)]; rfl
        rw [ef, List.append_nil]
        exact hall.mono e34
  · left
    have ei : i = xs.length := by omega
    subst ei
    refine ⟨(ok xs.length H2 e2).2 (by rw [List.length_map]), q _ H2 (e1.trans e2) ⟨D, acc, rfl, hacc, ?_⟩⟩
    rw [List.take_length] at hall
    exact hall
where
  wipe_wipe {σ : L2.St} {vs : List Nat} : L2.wipe (L2.wipe σ vs) vs = L2.wipe σ vs := by
    have key : ∀ (us : List Nat) (τ : L2.St), (∀ v ∈ us, τ[v]? = some none ∨ τ[v]? = none) → L2.wipe τ us = τ := fun us => by
      induction us with
      | nil => exact fun _ _ => rfl
      | cons w us ih =>
        intro τ h
        show (L2.wipe τ us).set w none = τ
        rw [ih τ fun v hv => h v (List.mem_cons_of_mem _ hv)]
        apply List.ext_getElem?
        intro n
        rw [List.getElem?_set]
        split
        · rename_i hw
          subst hw
          rcases h w List.mem_cons_self with z | z
          · rw [if_pos (List.getElem?_eq_some_iff.mp z).1, z]
          · rw [if_neg (by have := List.getElem?_eq_none_iff.mp z; omega), z]
        · rfl
    refine key vs _ fun v hv => ?_
    have key2 : ∀ (us : List Nat), v ∈ us → (L2.wipe σ us)[v]? = some none ∨ (L2.wipe σ us)[v]? = none := fun us => by
      induction us with
      | nil => intro h; cases h
      | cons w us ih =>
        intro h
        show ((L2.wipe σ us).set w none)[v]? = _ ∨ ((L2.wipe σ us).set w none)[v]? = _
        rw [List.getElem?_set]
        split
        · split
          · exact .inl rfl
          · exact .inr rfl
        · rcases List.mem_cons.mp h with z | z
          · rename_i hne
            exact absurd z.symm hne
          · exact ih z
    exact key2 vs hv
/-- no test -/
theorem ed_lc0 {α : Type} {wi : TI} {g : TG} {vs js : List Nat} (xs : List α) (φ : α → Dt) (ψ : α → Dt) (hw : Wd wi ρ (xs.map φ)) (hz : xs.length ≤ 40000) (hj : ∀ j ∈ js, j ∈ vs) (hi : ∀ a ∈ xs, Imm (ψ a))
    (ht : ∀ a ∈ xs, ∃ ρ1, Gd g (φ a) js (wpR ρ vs) ρ1 ∧ Ed te ρ1 (ψ a)) : Ed (tLc wi g tYes te vs) ρ (dLst K (xs.map ψ)) := by
  have h := ed_lc (K := K) (te := te) (tt := tYes) xs φ (fun _ => true) ψ hw hz hj (fun a ha _ => hi a ha) fun a ha => let ⟨ρ1, h1, h2⟩ := ht a ha; ⟨ρ1, h1, td_yes, fun _ => h2⟩
  rw [List.filter_eq_self.mpr (fun _ _ => rfl)] at h
  exact h
/-! ### statements -/
inductive Out where
  | ret (d : Dt) | nx (ρ : Rho)
def Out.ok : Out → Hp → Ends → Prop
  | .ret d, H, D => ∀ v H', Ex H H' → d.P H' v → D.rt v H'
  | .nx ρ, H, D => ∀ σ' H', Ex H H' → EnvOk H' ρ σ' → D.nx σ' H'
theorem Out.ok.mono {o : Out} {H H1 : Hp} {D : Ends} (e : Ex H H1) (h : o.ok H D) : o.ok H1 D := by
  cases o with
  | ret d => exact fun v H' e' => h v H' (e.trans e')
  | nx ρ => exact fun v H' e' => h v H' (e.trans e')
def Sd (t : TS) (ρ : Rho) (o : Out) : Prop := ∀ H σ D, EnvOk H ρ σ → o.ok H D → t D σ H
variable {s1 s2 : TS} {o : Out}
theorem sd_ret (h : Ed te ρ d) : Sd (tRet te) ρ (.ret d) := fun H σ D e k => h H σ e _ k
theorem sd_retN : Sd tRetN ρ (.ret dN) := fun H σ D e k => k _ H (Ex.refl H) rfl
theorem sd_asg {g : TG} {js : List Nat} (h : Ed te ρ d) (hg : Gd g d js ρ ρ') : Sd (tAsg te g) ρ (.nx ρ') := fun H σ D e k => h H σ e _ fun v H1 e1 p => hg v H1 σ p (e.mono e1) _ fun σ' e' _ => k σ' H1 e1 e'
theorem sd_set {i : Nat} (h : Ed te ρ d) : Sd (tAsg te (gName i)) ρ (.nx (ρ.set i (some d))) := sd_asg h gd_name
theorem sd_par {i j : Nat} (h : EdA (tCons ta (tCons tb tNil)) ρ [x, y]) : Sd (tPar i j (tCons ta (tCons tb tNil))) ρ (.nx ((ρ.set i (some x)).set j (some y))) := fun H σ D e k => h H σ e _ fun vs H1 e1 p => by
  obtain ⟨v, w, rfl, p1, p2⟩ := all2_2 p
  exact ⟨v, w, rfl, k _ H1 e1 (((e.mono e1).set p1 i).set p2 j)⟩
theorem sd_next : Sd tNext ρ (.nx ρ) := fun H σ D e k => k σ H (Ex.refl H) e
theorem sd_seq (h1 : Sd s1 ρ (.nx ρ1)) (h2 : Sd s2 ρ1 o) : Sd (tSeq s1 s2) ρ o := fun H σ D e k => h1 H σ { D with nx := s2 D } e fun σ' H' e' en => h2 H' σ' D en (k.mono e')
theorem sd_seqR (h1 : Sd s1 ρ (.ret d)) : Sd (tSeq s1 s2) ρ (.ret d) := fun H σ D e k => h1 H σ { D with nx := s2 D } e k
theorem sd_if (h : Td t ρ a) (h1 : a = true → Sd s1 ρ o) (h2 : a = false → Sd s2 ρ o) : Sd (tIfS t s1 s2) ρ o := fun H σ D e k => h H σ e _ fun H1 e1 => by
  cases a with
  | true => exact h1 rfl H1 σ D (e.mono e1) (k.mono e1)
  | false => exact h2 rfl H1 σ D (e.mono e1) (k.mono e1)
/-- if c: return .. ; rest -/
theorem sd_ifR (h : Td t ρ a) (h1 : a = true → Sd s1 ρ (.ret d)) (h2 : a = false → Sd s2 ρ (.ret d)) : Sd (tSeq (tIfS t s1 tNext) s2) ρ (.ret d) := fun H σ D e k => h H σ e _ fun H1 e1 => by
  cases a with
  | true => exact h1 rfl H1 σ { D with nx := s2 D } (e.mono e1) (k.mono e1)
  | false => exact h2 rfl H1 σ D (e.mono e1) (k.mono e1)
theorem sd_drop (h : Ed te ρ d) : Sd (tDrop te) ρ (.nx ρ) := fun H σ D e k => h H σ e _ fun v H1 e1 _ => k σ H1 e1 (e.mono e1)
theorem sd_wk (h : Sd s1 ρ (.nx ρ1)) (w : Wk ρ1 ρ') : Sd s1 ρ (.nx ρ') := fun H σ D e k => h H σ D e fun σ' H' e' en => k σ' H' e' (w.ok en)
theorem sd_pre (w : Wk ρ ρ1) (h : Sd s1 ρ1 o) : Sd s1 ρ o := fun H σ D e k => h H σ D (w.ok e) k
theorem sd_aug {i : Nat} {m n : Int} {f : Int → Int → Int} (hx : ρ[i]? = some (some (dI m))) (h : Ed te ρ (dI n)) : Sd (tAug i te (ipI f)) ρ (.nx (ρ.set i (some (dI (f m n))))) := fun H σ D e k => by
  obtain ⟨v, hv, pv⟩ := e.get hx
  have pv' : v = .int m := pv
  subst pv'
  exact ⟨.int m, hv, h H σ e _ fun w H1 e1 p => ⟨m, n, rfl, p, k _ H1 e1 ((e.mono e1).set rfl i)⟩⟩
/-- a for; st i: what is known ahead of turn i -/
theorem sd_for {wi : TI} {g : TG} {ds : List Dt} (hw : Wd wi ρ ds) (st : Nat → Rho) (h0 : Wk ρ (st 0)) (hs : ∀ i d, ds[i]? = some d → ∃ ρ1 js, Gd g d js (st i) ρ1 ∧ Sd s1 ρ1 (.nx (st (i + 1)))) : Sd (tFor wi g s1) ρ (.nx (st ds.length)) := fun H σ D e k => hw H σ e _ fun J H1 e1 ok => by
  refine ⟨fun i m σ2 H2 => m = ds.length - i ∧ i ≤ ds.length ∧ Ex H1 H2 ∧ EnvOk H2 (st i) σ2, ⟨_, rfl, Nat.zero_le _, Ex.refl _, h0.ok (e.mono e1)⟩, ?_⟩
  rintro i m σ2 H2 ⟨rfl, hi, e2, en⟩
  by_cases hlt : i < ds.length
  · right
    have hd : ds[i]? = some ds[i] := List.getElem?_eq_getElem hlt
    obtain ⟨go, yl⟩ := (ok i H2 e2).1 _ hd
    refine ⟨go, fun σ' H' => Ex H1 H' ∧ EnvOk H' (st (i + 1)) σ', fun σ' H' ⟨a, b⟩ => ⟨_, by omega, rfl, hlt, a, b⟩, fun x H3 y => ?_⟩
    obtain ⟨e3, px⟩ := yl x H3 y
    obtain ⟨ρ1, js, hg, hb⟩ := hs i _ hd
    exact hg x H3 σ2 px (en.mono e3) _ fun σ3 en3 _ => hb H3 σ3 _ en3 fun σ' H' e' en' => ⟨(e2.trans e3).trans e', en'⟩
  · left
    have ei : i = ds.length := by omega
    subst ei
    exact ⟨(ok _ H2 e2).2 rfl, k σ2 H2 (e1.trans e2) en⟩
/-- a for that is left by a return at turn j -/
theorem sd_forR {wi : TI} {g : TG} {ds : List Dt} {j : Nat} {dj : Dt} (hw : Wd wi ρ ds) (st : Nat → Rho) (h0 : Wk ρ (st 0)) (hs : ∀ i d, i < j → ds[i]? = some d → ∃ ρ1 js, Gd g d js (st i) ρ1 ∧ Sd s1 ρ1 (.nx (st (i + 1))))
    (hj : ds[j]? = some dj) (hr : ∃ ρ1 js, Gd g dj js (st j) ρ1 ∧ Sd s1 ρ1 (.ret d)) : Sd (tFor wi g s1) ρ (.ret d) := fun H σ D e k => hw H σ e _ fun J H1 e1 ok => by
  have hjl := (List.getElem?_eq_some_iff.mp hj).1
  refine ⟨fun i m σ2 H2 => m = ds.length - i ∧ i ≤ j ∧ Ex H1 H2 ∧ EnvOk H2 (st i) σ2, ⟨_, rfl, Nat.zero_le _, Ex.refl _, h0.ok (e.mono e1)⟩, ?_⟩
  rintro i m σ2 H2 ⟨rfl, hi, e2, en⟩
  right
  by_cases hlt : i < j
  · have hd : ds[i]? = some ds[i] := List.getElem?_eq_getElem (by omega)
    obtain ⟨go, yl⟩ := (ok i H2 e2).1 _ hd
    refine ⟨go, fun σ' H' => Ex H1 H' ∧ EnvOk H' (st (i + 1)) σ', fun σ' H' ⟨a, b⟩ => ⟨ds.length - (i + 1), by omega, rfl, hlt, a, b⟩, fun x H3 y => ?_⟩
    obtain ⟨e3, px⟩ := yl x H3 y
    obtain ⟨ρ1, js, hg, hb⟩ := hs i _ hlt hd
    exact hg x H3 σ2 px (en.mono e3) _ fun σ3 en3 _ => hb H3 σ3 _ en3 fun σ' H' e' en' => ⟨(e2.trans e3).trans e', en'⟩
  · have ei : i = j := by omega
    subst ei
    obtain ⟨go, yl⟩ := (ok i H2 e2).1 _ hj
    refine ⟨go, fun _ _ => False, fun _ _ z => z.elim, fun x H3 y => ?_⟩
    obtain ⟨e3, px⟩ := yl x H3 y
    obtain ⟨ρ1, js, hg, hb⟩ := hr
    exact hg x H3 σ2 px (en.mono e3) _ fun σ3 en3 _ => hb H3 σ3 _ en3 fun v H' e' pv => k v H' (((e1.trans e2).trans e3).trans e') pv
end
/-! ### a def whose promise speaks of data -/
theorem fn_pure {P : Program} {w : World} {K : PySem.W.Frag} {mg : Str → Option Value} {base : Heap} {x qual : Str} {params : Arguments} {body : List Stmt} {scope : Scope} {dvs : List V} {kws : List (Str × V)} {f : Addr} {fd : FuncData} {N ps : List Str} {k : Nat} {R : List Dt → Dt → Prop}
    (F : FunD K x qual params body scope dvs kws f fd) (S : FnScope N ps scope) (hl : ∀ ds d, R ds d → ds.length = ps.length)
    (hb : ∀ (cdv : Value) (A : Around) (outer : List Env) (s : Shared) (H : Hp) (E : XK), Room k (A.deeper (envOfC qual scope s.heap.objs.size f cdv)) →
      ∃ t, PSs (cxOf CX0 P w K mg base N qual scope f cdv A outer s H E).nox body t ∧ ∀ ds d, R ds d → Sd t (ds.map some ++ List.replicate (N.length - ds.length) none) (.ret d)) : FnOk P w K mg base CX0 (k + 1) f fd ps (spP R) := by
  refine F.ok S (fun vs H Q E ⟨ds, d, r, h, _⟩ => ?_) (fun cdv A outer s H vs Q E hr ⟨ds, d, r, h, q⟩ => ?_)
  · rw [← hl ds d r, h.len]
  · obtain ⟨t, ht, hs⟩ := hb cdv A outer s H E hr
    refine ⟨t, ht.nox, hs ds d r H _ _ ?_ q⟩
    unfold L2.start
    rw [← h.len]
    exact EnvOk.start h _
/-- one that hands back None by its end -/
theorem fn_pureN {P : Program} {w : World} {K : PySem.W.Frag} {mg : Str → Option Value} {base : Heap} {x qual : Str} {params : Arguments} {body : List Stmt} {scope : Scope} {dvs : List V} {kws : List (Str × V)} {f : Addr} {fd : FuncData} {N ps : List Str} {k : Nat} {R : List Dt → Prop}
    (F : FunD K x qual params body scope dvs kws f fd) (S : FnScope N ps scope) (hl : ∀ ds, R ds → ds.length = ps.length)
    (hb : ∀ (cdv : Value) (A : Around) (outer : List Env) (s : Shared) (H : Hp) (E : XK), Room k (A.deeper (envOfC qual scope s.heap.objs.size f cdv)) →
      ∃ t, PSs (cxOf CX0 P w K mg base N qual scope f cdv A outer s H E).nox body t ∧ ∀ ds, R ds → ∃ ρ', Sd t (ds.map some ++ List.replicate (N.length - ds.length) none) (.nx ρ')) : FnOk P w K mg base CX0 (k + 1) f fd ps (spP fun ds d => R ds ∧ d = dN) := by
  refine F.ok S (fun vs H Q E ⟨ds, d, r, h, _⟩ => ?_) (fun cdv A outer s H vs Q E hr ⟨ds, d, r, h, q⟩ => ?_)
  · rw [← hl ds r.1, h.len]
  · obtain ⟨t, ht, hs⟩ := hb cdv A outer s H E hr
    obtain ⟨ρ', hs⟩ := hs ds r.1
    refine ⟨t, ht.nox, hs H _ _ ?_ fun σ' H' e _ => q _ H' e (by rw [r.2]; rfl)⟩
    unfold L2.start
    rw [← h.len]
    exact EnvOk.start h _
end Sl
/-! Sl3: calls by name; the models of a class row, a style, a view, a label. -/
namespace Sl
open PySem PySem.Spec PyProof.Rows L2 StX RZ
open Evl (Ex ex_l ex_t ex_rd sq_of st_of sz_of sz_lt fresh_back)
/-! ### defs by their names -/
structure Fn0 (P : Program) (w : World) (K : PySem.W.Frag) (mg : Str → Option Value) (base : Heap) (k : Nat) (x : Str) (ps : List Str) (sp : Sp) : Prop where
  ex : ∃ f fd, mg x = some (.ref f) ∧ PySem.W.keepIn K (.ref f) = true ∧ FnOk P w K mg base CX0 k f fd ps sp ∧ Binds K fd ps []
structure Mt0 (P : Program) (w : World) (K : PySem.W.Frag) (mg : Str → Option Value) (base : Heap) (k : Nat) (C m : Str) (ps : List Str) (sp : Sp) : Prop where
  ex : ∃ f fd, Meth K (He.ga K C) m f ∧ FnOk P w K mg base CX0 k f fd ps sp ∧ Binds K fd ps []
theorem mk_fn {P : Program} {w : World} {K : PySem.W.Frag} {mg : Str → Option Value} {base : Heap} {k : Nat} {x : Str} {ps : List Str} {sp : Sp} {f : Addr} {fd : FuncData} (a : mg x = some (.ref f)) (b : PySem.W.keepIn K (.ref f) = true) (c : FnOk P w K mg base CX0 k f fd ps sp) (d : Binds K fd ps []) : Fn0 P w K mg base k x ps sp := ⟨⟨f, fd, a, b, c, d⟩⟩
theorem mk_mt {P : Program} {w : World} {K : PySem.W.Frag} {mg : Str → Option Value} {base : Heap} {k : Nat} {C m : Str} {ps : List Str} {sp : Sp} {f : Addr} {fd : FuncData} (a : Meth K (He.ga K C) m f) (c : FnOk P w K mg base CX0 k f fd ps sp) (d : Binds K fd ps []) : Mt0 P w K mg base k C m ps sp := ⟨⟨f, fd, a, c, d⟩⟩
section
variable {X : Cx} {x : Str} {p pos apos : Pos} {e o : Expr} {es : List Expr} {t : TA} {ta : TE} {sp : Sp} {k : Nat} {ps : List Str} {C m : Str} {P : Program} {w : World} {K : PySem.W.Frag} {mg : Str → Option Value} {base : Heap} {A : Around}
/-- where one stands -/
abbrev At (X : Cx) (P : Program) (w : World) (K : PySem.W.Frag) (mg : Str → Option Value) (base : Heap) (A : Around) : Prop := X.prog = P ∧ X.w = w ∧ X.K = K ∧ X.mg = mg ∧ X.base = base ∧ X.A = A
theorem pe_callF (F : Fn0 P w K mg base k x ps sp) (hr : Room k A) (ha : PA X (e :: es) t) (hX : At X P w K mg base A := by exact ⟨rfl, rfl, rfl, rfl, rfl, rfl⟩) (hg : Gl X x := by rfl) (hd : (x == ("__debug__" : Str)) = false := by decide)
    (he : starEach (e :: es) X.env = (false, eval e X.env) :: starEach es X.env := by rfl) (hpl : (backTo pos (starEach es X.env)).any (·.1) = false := by rfl) : PE X (.Call (.Name x p) (e :: es) [] pos) (tCall sp [] E0 t) := by
  obtain ⟨rfl, rfl, rfl, rfl, rfl, rfl⟩ := hX
  obtain ⟨f, fd, a, b, c, d⟩ := F.ex
  exact pe_call c hr hg a b d .nil pass0 ha hd he hpl
theorem pe_methF {pl : Sem Bool} (F : Mt0 P w K mg base k C m ps sp) (c : Cls K (He.ga K C)) (hr : Room k A) (ho : PE X o ta) (ha : PA X (e :: es) t) (hX : At X P w K mg base A := by exact ⟨rfl, rfl, rfl, rfl, rfl, rfl⟩)
    (hst : starEach (e :: es) X.env = (false, eval e X.env) :: starEach es X.env := by rfl) (hpl : (backTo pos (starEach es X.env)).any (·.1) = false := by rfl)
    (ht : eval (.Call (.Attribute o m apos) (e :: es) [] pos) X.env = (do
      let ov ← eval o X.env
      standAt apos.atName
      let (f, first) ← holding [ov] (getMethod ov m pl)
      callWith pos f first (backTo pos (starEach (e :: es) X.env)) (backToKw pos (keywordEach [] X.env))) := by rfl) :
    PE X (.Call (.Attribute o m apos) (e :: es) [] pos) (tMeth (He.ga K C) m sp [] E0 ta t) := by
  obtain ⟨rfl, rfl, rfl, rfl, rfl, rfl⟩ := hX
  obtain ⟨f, fd, a, b, d⟩ := F.ex
  exact pe_meth ho c a b hr d .nil pass0 ha hst hpl ht
theorem pe_methF0 {pl : Sem Bool} (F : Mt0 P w K mg base k C m ps sp) (c : Cls K (He.ga K C)) (hr : Room k A) (ho : PE X o ta) (hX : At X P w K mg base A := by exact ⟨rfl, rfl, rfl, rfl, rfl, rfl⟩)
    (ht : eval (.Call (.Attribute o m apos) [] [] pos) X.env = (do
      let ov ← eval o X.env
      standAt apos.atName
      let (f, first) ← holding [ov] (getMethod ov m pl)
      callWith pos f first [] []) := by rfl) :
    PE X (.Call (.Attribute o m apos) [] [] pos) (tMeth (He.ga K C) m sp [] E0 ta tNil) := by
  obtain ⟨rfl, rfl, rfl, rfl, rfl, rfl⟩ := hX
  obtain ⟨f, fd, a, b, d⟩ := F.ex
  exact pe_meth0 ho c a b hr d .nil pass0 ht
theorem pe_gint {i : Int} (h : ∃ t, mg x = some (.int i t)) (hX : X.mg = mg := by rfl) (hg : Gl X x := by rfl) (hd : (x == ("__debug__" : Str)) = false := by decide) : PE X (.Name x pos) (tC (.int i)) := by
  subst hX
  obtain ⟨t, h⟩ := h
  exact pe_glob hg h ⟨t, rfl⟩ hd
theorem pe_gstr {i : Str} (h : ∃ t, mg x = some (.str i t)) (hX : X.mg = mg := by rfl) (hg : Gl X x := by rfl) (hd : (x == ("__debug__" : Str)) = false := by decide) : PE X (.Name x pos) (tC (.str i)) := by
  subst hX
  obtain ⟨t, h⟩ := h
  exact pe_glob hg h ⟨t, rfl⟩ hd
theorem pe_gref {a : Addr} (h : mg x = some (.ref a)) (hX : X.mg = mg := by rfl) (hg : Gl X x := by rfl) (hd : (x == ("__debug__" : Str)) = false := by decide) : PE X (.Name x pos) (tC (.ref a)) := by
  subst hX
  exact pe_glob hg h rfl hd
theorem pe_gty {n : String} (hm : mg x = none) (hv : bootBuiltins x = some (.type n)) (hX : X.mg = mg := by rfl) (hg : Gl X x := by rfl) (hn : x ≠ "__name__" := by decide) (hd : (x == ("__debug__" : Str)) = false := by decide) : PE X (.Name x pos) (tC (.ty n)) := by
  subst hX
  exact pe_bltn hg hm hv rfl hn hd
theorem pe_bi {id : String} {r : List V → Hp → VK → Prop} (hc : CallR X (.builtin id) r) (hm : mg x = none) (hv : bootBuiltins x = some (.builtin id)) (ha : PA X (e :: es) t) (hX : X.mg = mg := by rfl) (hg : Gl X x := by rfl) (hn : x ≠ "__name__" := by decide) (hdb : (x == ("__debug__" : Str)) = false := by decide)
    (he : starEach (e :: es) X.env = (false, eval e X.env) :: starEach es X.env := by rfl) (hpl : (backTo pos (starEach es X.env)).any (·.1) = false := by rfl) : PE X (.Call (.Name x p) (e :: es) [] pos) (tCB r t) := by
  subst hX
  exact pe_callB hc hg hm hv ha hn hdb he hpl
theorem pe_bt {T : String} {r : List V → Hp → VK → Prop} (hc : CallR X (.type T) r) (hm : mg x = none) (hv : bootBuiltins x = some (.type T)) (ha : PA X (e :: es) t) (hX : X.mg = mg := by rfl) (hg : Gl X x := by rfl) (hn : x ≠ "__name__" := by decide) (hdb : (x == ("__debug__" : Str)) = false := by decide)
    (he : starEach (e :: es) X.env = (false, eval e X.env) :: starEach es X.env := by rfl) (hpl : (backTo pos (starEach es X.env)).any (·.1) = false := by rfl) : PE X (.Call (.Name x p) (e :: es) [] pos) (tCB r t) := by
  subst hX
  exact pe_callTy hc hg hm hv ha hn hdb he hpl
theorem pe_dgetF {i : Expr} {td ty : TE} (hu : A.units + 1 < cLine) (ho : PE X o td) (hi : PE X i ty) (hs : NoSl i) (hX : X.A = A := by rfl) : PE X (.Subscript o i pos) (tDGet td ty) := by
  subst hX
  exact pe_dget hu ho hi hs
theorem pc_dinF {i : Expr} {td ty : TE} (hu : A.units + 1 < cLine) (hi : PE X i ty) (ho : PE X o td) (hX : X.A = A := by rfl) : PC X .In i o (tDIn ty td) := by
  subst hX
  exact pc_din hu hi ho
theorem pc_dnotinF {i : Expr} {td ty : TE} (hu : A.units + 1 < cLine) (hi : PE X i ty) (ho : PE X o td) (hX : X.A = A := by rfl) : PC X .NotIn i o (tDNotIn ty td) := by
  subst hX
  exact pc_dnotin hu hi ho
theorem pe_dget2F {f : Expr} {td ty tx : TE} {cpos : Pos} (hu : A.units + 1 < cLine) (ho : PE X o td) (he : PE X e ty) (hf : PE X f tx) (m : M2 X o "get" apos e f cpos) (hX : X.A = A := by rfl) : PE X (.Call (.Attribute o "get" apos) [e, f] [] cpos) (tDGet2 td ty tx) := by
  subst hX
  exact pe_dget2 hu ho he hf m
theorem pg_tupF {es : List Expr} {k : Nat} {t : TGs} {n : Nat} (h : PGs X es t) (hc : X.calm = true := by rfl) (hn : (assignEach es X.env).length = n := by rfl) (hst : (assignEach es X.env).findIdx? (·.1) = none := by rfl) : PG X (.Tuple es k pos) (gTup X.K n t) := pg_tup hc h hn hst
theorem pi_r1 {tg a : Expr} {ta : TA} (hm : mg "range" = none) (ha : PA X [a] ta) (hX : X.mg = mg := by rfl) (hg : Gl X "range" := by rfl) (hs : starEach [a] X.env = [(false, eval a X.env)] := by rfl) : PI X tg (.Call (.Name "range" p) [a] [] pos) (iRng1 ta) := by
  subst hX
  exact pi_range1 hg hm ha hs
theorem pi_r2 {tg a b : Expr} {ta : TA} (hm : mg "range" = none) (ha : PA X [a, b] ta) (hX : X.mg = mg := by rfl) (hg : Gl X "range" := by rfl) (hs : starEach [a, b] X.env = [(false, eval a X.env), (false, eval b X.env)] := by rfl) (hs2 : starEach [b] X.env = [(false, eval b X.env)] := by rfl) : PI X tg (.Call (.Name "range" p) [a, b] [] pos) (iRng2 ta) := by
  subst hX
  exact pi_range2 hg hm ha hs hs2
/-! the same rules with the written part named (within a comprehension it may not be read off the block's context) -/
theorem pe_fldK (K : PySem.W.Frag) {f : Str} (he : PE X e ta) (hX : X.K = K := by rfl) (hb : attributeBase e f X.env (eval e X.env) = eval e X.env := by rfl) : PE X (.Attribute e f pos) (tFld K ta f) := hX ▸ pe_fld he hb
theorem ixK_tup (K : PySem.W.Frag) (hX : X.K = K := by rfl) : IxR X (rIxT K) := hX ▸ ix_tup
theorem ixK_list (K : PySem.W.Frag) (hX : X.K = K := by rfl) : IxR X (rIxL K) := hX ▸ ix_list
theorem slK_tupA (K : PySem.W.Frag) (hX : X.K = K := by rfl) : SlR X (rSlA K) := hX ▸ sl_tupA
theorem slK_list (K : PySem.W.Frag) (hX : X.K = K := by rfl) : SlR X (rSlL K) := hX ▸ sl_list
theorem crK_len (K : PySem.W.Frag) (hX : X.K = K := by rfl) : CallR X (.builtin "len") (rLenS K) := hX ▸ call_len_seq
theorem crK_tuple (K : PySem.W.Frag) (hX : X.K = K := by rfl) : CallR X (.type "tuple") (rTupOf K) := hX ▸ call_tuple_of
theorem crK_list (K : PySem.W.Frag) (hX : X.K = K := by rfl) : CallR X (.type "list") (rListOf K) := hX ▸ call_list_of
theorem crK_all (K : PySem.W.Frag) (hX : X.K = K := by rfl) (hc : X.calm = true := by rfl) : CallR X (.builtin "all") (rAll K) := hX ▸ cr_all hc
theorem crK_any (K : PySem.W.Frag) (hX : X.K = K := by rfl) (hc : X.calm = true := by rfl) : CallR X (.builtin "any") (rAny K) := hX ▸ cr_any hc
theorem crK_sum (K : PySem.W.Frag) (hX : X.K = K := by rfl) (hc : X.calm = true := by rfl) : CallR X (.builtin "sum") (rSum K) := hX ▸ cr_sum hc
theorem crK_isi (K : PySem.W.Frag) (hX : X.K = K := by rfl) : CallR X (.builtin "isinstance") (rIsi K) := hX ▸ call_isi
theorem opK_eqD (K : PySem.W.Frag) (hu : A.units + 65 < cLine) (hX : X.K = K ∧ X.A = A := by exact ⟨rfl, rfl⟩) : OpR X (compareOp .Eq) (rEqD K) := by
  obtain ⟨rfl, rfl⟩ := hX
  exact op_eqD (by omega)
theorem opK_neD (K : PySem.W.Frag) (hu : A.units + 65 < cLine) (hX : X.K = K ∧ X.A = A := by exact ⟨rfl, rfl⟩) : OpR X (compareOp .NotEq) (rNeD K) := by
  obtain ⟨rfl, rfl⟩ := hX
  exact op_neD (by omega)
theorem opK_in (K : PySem.W.Frag) (hX : X.K = K := by rfl) : OpR X (compareOp .In) (rIn K false) := hX ▸ op_in_seq
theorem opK_notIn (K : PySem.W.Frag) (hX : X.K = K := by rfl) : OpR X (compareOp .NotIn) (rIn K true) := hX ▸ op_notIn_seq
theorem opK_catT (K : PySem.W.Frag) (hX : X.K = K := by rfl) : OpR X (binaryOp .Add) (rCatA K) := hX ▸ op_catA
theorem opK_leT (K : PySem.W.Frag) (hu : A.units + 1 < cLine) (hX : X.K = K ∧ X.A = A := by exact ⟨rfl, rfl⟩) : OpR X (compareOp .LtE) (rLeT K) := by
  obtain ⟨rfl, rfl⟩ := hX
  exact op_leT (by omega)
theorem pi_listK (K : PySem.W.Frag) {l tg : Expr} {tl : TE} (hl : PE X l tl) (hX : X.K = K := by rfl) : PI X tg l (iList K tl) := hX ▸ pi_list hl
theorem pi_tupK (K : PySem.W.Frag) {l tg : Expr} {tl : TE} (hl : PE X l tl) (hX : X.K = K := by rfl) : PI X tg l (iTup K tl) := hX ▸ pi_tup hl
theorem pi_enumK (K : PySem.W.Frag) {tpos : Pos} {elts : List Expr} {kk : Nat} (hm : mg "enumerate" = none) (ha : PA X [e] t) (hX : X.K = K ∧ X.mg = mg := by exact ⟨rfl, rfl⟩) (hg : Gl X "enumerate" := by rfl) (hs : starEach [e] X.env = [(false, eval e X.env)] := by rfl) :
    PI X (.Tuple elts kk tpos) (.Call (.Name "enumerate" p) [e] [] pos) (iEnum K t) := by
  obtain ⟨rfl, rfl⟩ := hX
  exact pi_enum hg hm ha hs
theorem pi_zipK (K : PySem.W.Frag) {e2 : Expr} {tpos : Pos} {elts : List Expr} {kk : Nat} (hm : mg "zip" = none) (ha : PA X [e, e2] t) (hX : X.K = K ∧ X.mg = mg := by exact ⟨rfl, rfl⟩) (hg : Gl X "zip" := by rfl)
    (hs : starEach [e, e2] X.env = (false, eval e X.env) :: starEach [e2] X.env := by rfl) (hpl : (backTo pos (starEach [e2] X.env)).any (·.1) = false := by rfl) : PI X (.Tuple elts kk tpos) (.Call (.Name "zip" p) [e, e2] [] pos) (iZipA K t) := by
  obtain ⟨rfl, rfl⟩ := hX
  exact pi_zipA hg hm ha hs hpl
theorem pg_tupK (K : PySem.W.Frag) {es : List Expr} {k : Nat} {t : TGs} {n : Nat} (h : PGs X es t) (hX : X.K = K := by rfl) (hc : X.calm = true := by rfl) (hn : (assignEach es X.env).length = n := by rfl) (hst : (assignEach es X.env).findIdx? (·.1) = none := by rfl) : PG X (.Tuple es k pos) (gTup K n t) := hX ▸ pg_tup hc h hn hst
theorem pa_starK (K : PySem.W.Frag) {te : TE} (he : PE X e te) (hr : PA X es t) (hX : X.K = K := by rfl) (hs : starEach (.Starred e p :: es) X.env = (true, eval e X.env) :: starEach es X.env := by rfl) : PA X (.Starred e p :: es) (tStar K te t) := hX ▸ pa_star he hr hs
end
local macro_rules | `(tactic| walk_at "sd") => `(tactic| first | assumption | omega | decide | (constructor <;> assumption) | (constructor <;> omega))
/-! ### models -/
structure Row where
  name : Str
  first : Int
  least : Int
  most : Int
  sizes : List Int
  deriving Inhabited, DecidableEq
def Row.at (r : Row) (z : Int) : Int := if 0 ≤ z - r.first ∧ z - r.first < (r.sizes.length : Int) then r.sizes.getD (z - r.first).toNat 0 else 0
structure Sty where
  text : Str
  last : Int
  rows : List Row
  beside : List (Int × Int)
  far : List ((Int × Int) × Int)
def Sty.row (S : Sty) (i : Int) : Row := S.rows.getD i.toNat default
def isLow (c : Nat) : Prop := 97 ≤ c ∧ c ≤ 122
def IsName (s : Str) : Prop := 1 ≤ s.length ∧ s.length ≤ 12 ∧ ∀ c ∈ s.cps.toList, isLow c
structure Row.Ok (r : Row) (last : Int) : Prop where
  nm : IsName r.name
  f0 : 0 ≤ r.first
  l0 : 1 ≤ r.least
  l9 : r.least ≤ 9
  m0 : r.least ≤ r.most
  m3 : r.most ≤ r.least + 3
  s1 : 1 ≤ r.sizes.length
  sl : r.first + (r.sizes.length : Int) - 1 ≤ last
  sz : ∀ s ∈ r.sizes, 2 ≤ s ∧ s ≤ 9
structure Sty.Ok (S : Sty) : Prop where
  z0 : 0 ≤ S.last
  z4 : S.last ≤ 4
  n1 : 1 ≤ S.rows.length
  n4 : S.rows.length ≤ 4
  rw : ∀ r ∈ S.rows, r.Ok S.last
  nd : (S.rows.map Row.name).Nodup
  fk : (S.far.map (·.1)).Nodup
  fd : ∀ p ∈ S.far, 1 ≤ p.2 ∧ p.2 ≤ 9999
  bl : S.beside.length ≤ 100
  fl : S.far.length ≤ 100
def Sty.In (S : Sty) (i : Int) : Prop := 0 ≤ i ∧ i < (S.rows.length : Int)
theorem Sty.In.mem {S : Sty} {i : Int} (h : S.In i) : S.row i ∈ S.rows := by
  unfold Sty.row
  have : i.toNat < S.rows.length := by have := h.1; have := h.2; omega
  rw [List.getD_eq_getElem?_getD, List.getElem?_eq_getElem this]
  exact List.getElem_mem this
theorem Sty.In.get {S : Sty} {i : Int} (h : S.In i) : S.rows[i.toNat]? = some (S.row i) := by
  unfold Sty.row
  have : i.toNat < S.rows.length := by have := h.1; have := h.2; omega
  rw [List.getD_eq_getElem?_getD, List.getElem?_eq_getElem this]
  rfl
theorem Sty.In.ok {S : Sty} (h : S.Ok) {i : Int} (hi : S.In i) : (S.row i).Ok S.last := h.rw _ hi.mem
theorem Row.Ok.at_bd {r : Row} {l : Int} (h : r.Ok l) (z : Int) : 0 ≤ r.at z ∧ r.at z ≤ 9 := by
  unfold Row.at
  split
  · rename_i q
    have hl : (z - r.first).toNat < r.sizes.length := by omega
    have := h.sz _ (List.getElem_mem hl)
    rw [List.getD_eq_getElem?_getD, List.getElem?_eq_getElem hl]
    show 0 ≤ r.sizes[(z - r.first).toNat] ∧ r.sizes[(z - r.first).toNat] ≤ 9
    omega
  · omega
def pairI (p : Int × Int) : List Int := [p.1, p.2]
def rp (i j : Int) : Int × Int := if i ≤ j then (i, j) else (j, i)
def Sty.compete (S : Sty) (i j : Int) : Bool := !decide (rp i j ∈ S.beside)
def Sty.dist (S : Sty) (i j : Int) : Int := (S.far.lookup (rp i j)).getD 0
def px (S : Sty) (z : Int) : Int := 2 ^ (S.last - z).toNat
def sz (S : Sty) (z i : Int) : Int := (S.row i).at z
def hh (S : Sty) (z i : Int) : Int := sz S z i * px S z
def hw (S : Sty) (z i l : Int) : Int := l * hh S z i
def gr (S : Sty) (z i : Int) : Int := hw S z i (S.row i).most
def br (S : Sty) (z i j : Int) : Int := gr S z i + gr S z j
def canOver (S : Sty) (z i j : Int) : Bool := decide (S.dist i j ≤ br S z i j - 1)
def canClash (S : Sty) (z i j : Int) : Bool := S.compete i j && canOver S z i j
/-! ### data -/
section
variable (K : PySem.W.Frag)
def tupI (ns : List Int) : Dt := dTup K (ns.map fun n => dI n)
theorem imm_tupI (ns : List Int) : Imm (tupI K ns) := imm_tup fun d hd => by
  obtain ⟨n, _, rfl⟩ := List.mem_map.mp hd
  exact imm_V _
def rowF (r : Row) (l s : Addr) : List (Str × V) := [("own_name", .str r.name), ("own_first", .int r.first), ("own_letters", .ref l), ("own_sizes", .ref s)]
def dRow (r : Row) : Dt := ⟨fun H v => ∃ a dx l s, v = .ref a ∧ H a = some (.ins (He.ga K "ClassRow") dx (rowF r l s)) ∧ SqT K H l [.int r.least, .int r.most] ∧ SqT K H s (r.sizes.map V.int),
  fun e ⟨a, dx, l, s, h1, h2, h3, h4⟩ => ⟨a, dx, l, s, h1, e _ _ h2, ex_t e h3, ex_t e h4⟩⟩
theorem imm_row (r : Row) : Imm (dRow K r) := fun k ⟨a, dx, l, s, h1, h2, h3, h4⟩ => ⟨a, dx, l, s, h1, k _ _ h2 soft_ins, kx_t k h3, kx_t k h4⟩
def ranksOf (S : Sty) : List (Key × V) := S.rows.zipIdx.map fun p => (Sum.inr p.1.name, V.int (p.2 : Int))
def farOf (S : Sty) : List (List Key × V) := S.far.map fun p => ([Sum.inl p.1.1, Sum.inl p.1.2], V.int p.2)
def styF (S : Sty) (rs rk bs fr : Addr) : List (Str × V) := [("own_text", .str S.text), ("own_last", .int S.last), ("own_rows", .ref rs), ("own_ranks", .ref rk), ("own_beside", .ref bs), ("own_far", .ref fr)]
def besD (S : Sty) : Dt := dTup K (S.beside.map fun p => tupI K (pairI p))
def dSty (S : Sty) : Dt := ⟨fun H v => ∃ a dx rs rk bs fr, v = .ref a ∧ H a = some (.ins (He.ga K "Style") dx (styF S rs rk bs fr)) ∧ (dTup K (S.rows.map (dRow K))).P H (.ref rs) ∧ H rk = some (.dK (ranksOf S)) ∧ (besD K S).P H (.ref bs) ∧ H fr = some (.dT (farOf S)),
  fun e ⟨a, dx, rs, rk, bs, fr, h1, h2, h3, h4, h5, h6⟩ => ⟨a, dx, rs, rk, bs, fr, h1, e _ _ h2, Dt.mono _ e h3, e _ _ h4, Dt.mono _ e h5, e _ _ h6⟩⟩
theorem imm_bes (S : Sty) : Imm (besD K S) := imm_tup fun d hd => by
  obtain ⟨n, _, rfl⟩ := List.mem_map.mp hd
  exact imm_tupI K _
theorem imm_sty (S : Sty) : Imm (dSty K S) := fun k ⟨a, dx, rs, rk, bs, fr, h1, h2, h3, h4, h5, h6⟩ => ⟨a, dx, rs, rk, bs, fr, h1, k _ _ h2 soft_ins, imm_tup (fun d hd => by
  obtain ⟨n, _, rfl⟩ := List.mem_map.mp hd
  exact imm_row K _) k h3, k _ _ h4 soft_dK, imm_bes K S k h5, k _ _ h6 soft_dT⟩
def szsOf (S : Sty) (z : Int) : List Int := S.rows.map fun r => r.at z
def vwF (S : Sty) (z : Int) (st sz : Addr) : List (Str × V) := [("own_style", .ref st), ("own_zoom", .int z), ("own_pixel", .int (px S z)), ("own_sizes", .ref sz)]
def dVw (S : Sty) (z : Int) : Dt := ⟨fun H v => ∃ a dx st sz, v = .ref a ∧ H a = some (.ins (He.ga K "View") dx (vwF S z st sz)) ∧ (dSty K S).P H (.ref st) ∧ SqT K H sz ((szsOf S z).map V.int),
  fun e ⟨a, dx, st, sz, h1, h2, h3, h4⟩ => ⟨a, dx, st, sz, h1, e _ _ h2, Dt.mono _ e h3, ex_t e h4⟩⟩
theorem imm_vw (S : Sty) (z : Int) : Imm (dVw K S z) := fun k ⟨a, dx, st, sz, h1, h2, h3, h4⟩ => ⟨a, dx, st, sz, h1, k _ _ h2 soft_ins, imm_sty K S k h3, kx_t k h4⟩
end
/-- a label: its class by rank -/
structure Lab where
  name : Str
  rank : Int
  letters : Int
  weight : Int
  x : Int
  y : Int
def labD (K : PySem.W.Frag) (S : Sty) (l : Lab) : Dt := dTup K [dS l.name, dS (S.row l.rank).name, dI l.letters, dI l.weight, dI l.x, dI l.y]
theorem imm_lab (K : PySem.W.Frag) (S : Sty) (l : Lab) : Imm (labD K S l) := imm_tup fun d hd => by
  simp only [List.mem_cons, List.not_mem_nil, or_false] at hd
  rcases hd with rfl | rfl | rfl | rfl | rfl | rfl <;> exact imm_V _
section
variable {w : World} {K : PySem.W.Frag} {mg : Str → Option Value} {S : Sty} {z : Int} {r : Row}
theorem all2_ints {H : Hp} (ns : List Int) : All2 H (ns.map fun n => dI n) (ns.map V.int) := All2.of_vals V.int ns
/-! ### fields -/
theorem fd_Row_own_name (T : Tx w K mg) : FD K (dRow K r) "own_name" (dS r.name) := fun H v ⟨a, dx, l, s, h1, h2, h3, h4⟩ => ⟨a, _, dx, _, _, h1, h2, T.cl_ClassRow, T.na_ClassRow_own_name, by kernel_rfl, rfl⟩
theorem fd_Row_own_first (T : Tx w K mg) : FD K (dRow K r) "own_first" (dI r.first) := fun H v ⟨a, dx, l, s, h1, h2, h3, h4⟩ => ⟨a, _, dx, _, .int r.first, h1, h2, T.cl_ClassRow, T.na_ClassRow_own_first, by kernel_rfl, rfl⟩
theorem fd_Row_own_letters (T : Tx w K mg) : FD K (dRow K r) "own_letters" (dTup K [dI r.least, dI r.most]) := fun H v ⟨a, dx, l, s, h1, h2, h3, h4⟩ => ⟨a, _, dx, _, .ref l, h1, h2, T.cl_ClassRow, T.na_ClassRow_own_letters, by kernel_rfl, l, _, rfl, h3, rfl, rfl, trivial⟩
theorem fd_Row_own_sizes (T : Tx w K mg) : FD K (dRow K r) "own_sizes" (tupI K r.sizes) := fun H v ⟨a, dx, l, s, h1, h2, h3, h4⟩ => ⟨a, _, dx, _, .ref s, h1, h2, T.cl_ClassRow, T.na_ClassRow_own_sizes, by kernel_rfl, s, _, rfl, h4, all2_ints _⟩
theorem fd_Style_own_last (T : Tx w K mg) : FD K (dSty K S) "own_last" (dI S.last) := fun H v ⟨a, dx, rs, rk, bs, fr, h1, h2, h3, h4, h5, h6⟩ => ⟨a, _, dx, _, .int S.last, h1, h2, T.cl_Style, T.na_Style_own_last, by kernel_rfl, rfl⟩
theorem fd_Style_own_rows (T : Tx w K mg) : FD K (dSty K S) "own_rows" (dTup K (S.rows.map (dRow K))) := fun H v ⟨a, dx, rs, rk, bs, fr, h1, h2, h3, h4, h5, h6⟩ => ⟨a, _, dx, _, .ref rs, h1, h2, T.cl_Style, T.na_Style_own_rows, by kernel_rfl, h3⟩
theorem fd_Style_own_beside (T : Tx w K mg) : FD K (dSty K S) "own_beside" (besD K S) := fun H v ⟨a, dx, rs, rk, bs, fr, h1, h2, h3, h4, h5, h6⟩ => ⟨a, _, dx, _, .ref bs, h1, h2, T.cl_Style, T.na_Style_own_beside, by kernel_rfl, h5⟩
def dDK (kvs : List (Key × V)) : Dt := ⟨fun H v => ∃ a, v = .ref a ∧ H a = some (.dK kvs), fun e ⟨a, h1, h2⟩ => ⟨a, h1, e _ _ h2⟩⟩
def dDT (kvs : List (List Key × V)) : Dt := ⟨fun H v => ∃ a, v = .ref a ∧ H a = some (.dT kvs), fun e ⟨a, h1, h2⟩ => ⟨a, h1, e _ _ h2⟩⟩
theorem fd_Style_own_ranks (T : Tx w K mg) : FD K (dSty K S) "own_ranks" (dDK (ranksOf S)) := fun H v ⟨a, dx, rs, rk, bs, fr, h1, h2, h3, h4, h5, h6⟩ => ⟨a, _, dx, _, .ref rk, h1, h2, T.cl_Style, T.na_Style_own_ranks, by kernel_rfl, rk, rfl, h4⟩
theorem fd_Style_own_far (T : Tx w K mg) : FD K (dSty K S) "own_far" (dDT (farOf S)) := fun H v ⟨a, dx, rs, rk, bs, fr, h1, h2, h3, h4, h5, h6⟩ => ⟨a, _, dx, _, .ref fr, h1, h2, T.cl_Style, T.na_Style_own_far, by kernel_rfl, fr, rfl, h6⟩
theorem fd_View_own_style (T : Tx w K mg) : FD K (dVw K S z) "own_style" (dSty K S) := fun H v ⟨a, dx, st, sz, h1, h2, h3, h4⟩ => ⟨a, _, dx, _, .ref st, h1, h2, T.cl_View, T.na_View_own_style, by kernel_rfl, h3⟩
theorem fd_View_own_pixel (T : Tx w K mg) : FD K (dVw K S z) "own_pixel" (dI (px S z)) := fun H v ⟨a, dx, st, sz, h1, h2, h3, h4⟩ => ⟨a, _, dx, _, .int (px S z), h1, h2, T.cl_View, T.na_View_own_pixel, by kernel_rfl, rfl⟩
theorem fd_View_own_sizes (T : Tx w K mg) : FD K (dVw K S z) "own_sizes" (tupI K (szsOf S z)) := fun H v ⟨a, dx, st, sz, h1, h2, h3, h4⟩ => ⟨a, _, dx, _, .ref sz, h1, h2, T.cl_View, T.na_View_own_sizes, by kernel_rfl, sz, _, rfl, h4, all2_ints _⟩
theorem md_Row {m : Str} (T : Tx w K mg) (h : ∀ l s, (rowF r l s).lookup m = none := by intro _ _; kernel_rfl) : MD (He.ga K "ClassRow") m (dRow K r) := fun H v ⟨a, dx, l, s, h1, h2, h3, h4⟩ => ⟨a, dx, _, h1, h2, h l s⟩
theorem md_Style {m : Str} (T : Tx w K mg) (h : ∀ a b c d, (styF S a b c d).lookup m = none := by intro _ _ _ _; kernel_rfl) : MD (He.ga K "Style") m (dSty K S) := fun H v ⟨a, dx, rs, rk, bs, fr, h1, h2, h3, h4, h5, h6⟩ => ⟨a, dx, _, h1, h2, h _ _ _ _⟩
theorem md_View {m : Str} (T : Tx w K mg) (h : ∀ a b, (vwF S z a b).lookup m = none := by intro _ _; kernel_rfl) : MD (He.ga K "View") m (dVw K S z) := fun H v ⟨a, dx, st, sz, h1, h2, h3, h4⟩ => ⟨a, dx, _, h1, h2, h _ _⟩
/-! ### items -/
theorem atI_in {α : Type} {xs : List α} {i : Int} {v : α} (h0 : 0 ≤ i) (h : xs[i.toNat]? = some v) : atI xs i = some v := by
  have := atI_nat h
  rw [show ((i.toNat : Nat) : Int) = i by omega] at this
  exact this
theorem at_rows {i : Int} (h : S.In i) : atI (S.rows.map (dRow K)) i = some (dRow K (S.row i)) := atI_in h.1 (by rw [List.getElem?_map, h.get]; rfl)
theorem at_szs {i : Int} (h : S.In i) : atI ((szsOf S z).map fun n => dI n) i = some (dI (sz S z i)) := atI_in h.1 (by
  unfold szsOf
  rw [List.getElem?_map, List.getElem?_map, h.get]
  rfl)
end
end Sl
/-! Sl3e: enumerate of a tuple. -/
namespace PySem
open Sem (wp)
theorem sl_enum_newT {t : Addr} {items : Array Value} :
    Meets (Builtin.«enumerate.__new__» ⟨[.type "enumerate", .ref t], []⟩) (fun _ R s => s.heap.IsTuple t items ∧
      R (.ok (.ret (.ref (s.heap.push { cls := .type "tuple_iterator", data := .fields #[.ref t, .int 0 0] }).objs.size)))
        { s with heap := (s.heap.push { cls := .type "tuple_iterator", data := .fields #[.ref t, .int 0 0] }).push { cls := .type "enumerate", data := .fields #[.none, .bool false, .ref s.heap.objs.size, rawInt 0, .none, .none] } }) :=
  .of_wp fun prog w A R s h => by
    obtain ⟨hp, g, d, tk, os⟩ := s; obtain ⟨h1, h⟩ := h
    have hsub := sub_enumerate
    have q1 : ∀ {A' : Around} {E : Value → Shared → Prop} {Q : Value → Shared → Prop}, Q (.ref hp.objs.size) ⟨hp.push { cls := .type "tuple_iterator", data := .fields #[.ref t, .int 0 0] }, g, d, tk, os⟩ → wpAny (model prog w) A' (pyIter (.ref t)) Q E ⟨hp, g, d, tk, os⟩ :=
      fun q => wpAny_pyIter_tuple h1 q
    wp_walk using q1
    refine wpAny_stack_any fun st => wpAny_pure ?_
    split
    · rename_i c _ _ _ _ _
      cases (c == Value.type "enumerate")
      · wp_walk using q1
        exact ⟨_, rfl, h⟩
      · wp_walk using q1
        exact ⟨_, rfl, h⟩
    · wp_walk using q1
      exact ⟨_, rfl, h⟩
theorem sl_enum_tup {prog : Program} {w : World} {A : Around} {E : Value → Shared → Prop} {s : Shared} {l : Addr} {items : Array Value} {Q : Value → Shared → Prop} (hL : s.heap.IsTuple l items)
    (h : ∀ h', IsEnum h' (s.heap.objs.size + 1) s.heap.objs.size 0 .none → h'.IsTupleIter s.heap.objs.size l 0 → h'.objs.size = s.heap.objs.size + 2 →
      (∀ b o, s.heap.get? b = some o → h'.get? b = some o) → Q (.ref (s.heap.objs.size + 1)) { s with heap := h' }) :
    wpAny (model prog w) A (call (.type "enumerate") [.ref l]) Q E s := by
  refine callType_new F.called_enumerate (by decide) (F.typeCall_enumerate_1 _) (F.newCall_enumerate_1 _) (fun obj => F.args_object_init_2 obj _) F.entry_enumerate_new
    (sl_enum_newT (t := l) (items := items)) ⟨hL, ?_⟩
  have hz : (s.heap.push { cls := .type "tuple_iterator", data := .fields #[.ref l, .int 0 0] }).objs.size = s.heap.objs.size + 1 := Heap.size_push ..
  show _ ∧ _
  rw [hz]
  have he : IsEnum ((s.heap.push { cls := .type "tuple_iterator", data := .fields #[.ref l, .int 0 0] }).push
      { cls := .type "enumerate", data := .fields #[.none, .bool false, .ref s.heap.objs.size, rawInt 0, .none, .none] }) (s.heap.objs.size + 1) s.heap.objs.size 0 .none := by
    have := Heap.get?_push_size (s.heap.push { cls := .type "tuple_iterator", data := .fields #[.ref l, .int 0 0] })
      (o := { cls := .type "enumerate", data := .fields #[.none, .bool false, .ref s.heap.objs.size, rawInt 0, .none, .none] }) rfl
    rw [hz] at this; exact this
  refine ⟨⟨_, he, rfl⟩, h _ he ⟨_, Heap.get?_push_of_some _ (Heap.get?_push_size _ rfl), rfl, rfl⟩ (by rw [Heap.size_push, hz]) fun b o x => Heap.get?_push_of_some _ (Heap.get?_push_of_some _ x)⟩
end PySem
namespace Sl
open PySem PySem.Spec PyProof.Rows L2 StX RZ
open Evl (Ex ex_l ex_t ex_rd sq_of st_of sz_of sz_lt fresh_back)
/-- the tuple at a, each item in a new pair -/
def IteT (K : PySem.W.Frag) (a : Addr) : It :=
  ⟨fun i H => ∃ (xs : List V) (x : V), SqT K H a xs ∧ xs[i]? = some x, fun i H v H' => ∃ T x, v = .ref T ∧ H T = none ∧ H' = upd H T (.tup [.int (i : Nat), x]) ∧ ∀ xs, SqT K H a xs → xs[i]? = some x, fun i H => ∃ xs : List V, SqT K H a xs ∧ xs.length = i⟩
theorem turn_enumT {P : Program} {w : World} {K : PySem.W.Frag} {elts : List Expr} {kk : Nat} {tpos : Pos} (a e it : Addr) (hae : a ≠ e) (hai : a ≠ it) :
    Turn P w K (.Tuple elts kk tpos) (IteT K a) [e, it] e (fun i h => (∃ old, IsEnum h e it ((i : Nat) : Int) old) ∧ h.IsTupleIter it a i ∧ e ≠ it) where
  mem := by simp
  obj := fun i h st b hb => by
    obtain ⟨⟨old, he⟩, ⟨o, ho, hc, hd⟩, _⟩ := st
    have e' : b = e ∨ b = it := by simpa using hb
    rcases e' with z | z
    · rw [z]; exact ⟨_, he, fun v q => nomatch q⟩
    · rw [z]; exact ⟨o, ho, fun v q => by rw [hd] at q; cases q⟩
  keep := fun i h h' st k => let ⟨⟨old, he⟩, hi, hne⟩ := st; ⟨⟨old, k e (by simp) _ he⟩, hi.at fun o q => k it (by simp) o q, hne⟩
  item := by
    intro X hP hw hK hc i pins s σ H E I hf st hg
    subst hP hw hK
    obtain ⟨⟨old, he⟩, hit, hne⟩ := st
    obtain ⟨xs, x, hq, hx⟩ := hg
    obtain ⟨its, rv, p, hz⟩ := I.tuple hq
    obtain ⟨u, hu, ru⟩ := rv.get hx
    have hel : e < s.heap.objs.size := Heap.lt_size he
    have hil : it < s.heap.objs.size := by obtain ⟨_, q, _⟩ := hit; exact Heap.lt_size q
    have D := Draws.tuple (prog := X.prog) (w := X.w) (A := X.A.in1) (show X.A.in1.handled = none from I.ok.hd hc) it a hai its.toArray
    have hiz : i < its.toArray.size := by
      have := (List.getElem?_eq_some_iff.mp hu).1
      simpa using this
    refine wpAny_pyNext_enum_itemD D he ⟨hit, p⟩ hiz hne (by simp [hne]; exact fun z => hae z.symm) fun x' h' tk hx' ho hst hT hsz hk => ?_
    have ex : x' = u := by
      have h1 : its.toArray[i]? = some x' := hx'
      have h2 : its[i]? = some x' := by simpa using h1
      rw [hu] at h2
      exact (Option.some.inj h2).symm
    subst ex
    refine ⟨_, rfl, wpAny_letOwnedTupleGo_enum (s := { s with heap := h', toks := tk + 1 }) ho fun h'' he' sb => ?_⟩
    have hT2 : h''.get? s.heap.objs.size = some { cls := .type "tuple", data := .seq #[.int i tk, x'] } := (sb.2 _ (Nat.ne_of_gt hel)).trans hT
    have new : ObjOk X.prog X.w (upd H s.heap.objs.size (.tup [.int (i : Nat), x])) h'' s.heap.objs.size (.tup [.int (i : Nat), x]) :=
      ⟨by show 2 ≤ sizeLine; decide, [.int i tk, x'], .cons ⟨_, rfl⟩ (.cons ru .nil), ⟨_, hT2, rfl, _, rfl⟩⟩
    have I1 : Inv X pins σ (upd H s.heap.objs.size (.tup [.int (i : Nat), x])) { s with heap := h'', toks := tk + 1 } :=
      I.turnedNew (ch := [e, it]) (fun b ob hb q => (sb.2 b (fun z => hb (by simp [z]))).trans (hk b ob (fun z => hb (by simp [z])) (fun z => hb (by simp [z])) q)) hf (Nat.le_refl _) new
    refine ⟨.ref s.heap.objs.size, _, I1, rfl, ⟨_, x, rfl, I.hok.fresh (Nat.le_refl _), rfl, fun ys hy => by rw [I.tuple_inj hy hq]; exact hx⟩, ⟨⟨x', ?_⟩, hst.1.at fun o q => (sb.2 it (Ne.symm hne)).trans q, hne⟩, fun b hb => ?_⟩
    · have e1 : ((i + 1 : Nat) : Int) = (i : Int) + 1 := by omega
      rw [e1]; exact he'
    · have hb' : b < s.heap.objs.size := by
        have e' : b = e ∨ b = it := by simpa using hb
        rcases e' with z | z
        · rw [z]; exact hel
        · rw [z]; exact hil
      rw [upd_ne (Nat.ne_of_lt hb')]
      exact (hf b hb).1
  done := by
    intro X hP hw hK hc i pins s σ H E I hf st hg
    subst hP hw hK
    obtain ⟨⟨old, he⟩, hit, hne⟩ := st
    obtain ⟨xs, hq, hx⟩ := hg
    obtain ⟨its, rv, p, hz⟩ := I.tuple hq
    obtain ⟨f0, f1, f2, f3, f4, f5⟩ := hf it (by simp)
    have hl := rv.length
    have D := Draws.tuple (prog := X.prog) (w := X.w) (A := X.A.in1) (show X.A.in1.handled = none from I.ok.hd hc) it a hai its.toArray
    have e0 : i = its.toArray.size := by simp; omega
    subst e0
    exact wpAny_pyNext_enum_endD D he ⟨hit, p⟩ fun h' eb => ⟨rfl, I.turned (t' := s.toks) (fun b o hb q => eb b o hb q) f0 f1 f3 f4 f5⟩
  self := fun A i s Q E st h => let ⟨⟨_, he⟩, _⟩ := st; wpAny_pyIter_enum he h
def iEnumT (K : PySem.W.Frag) (ta : TA) : TI := fun σ H R => ta σ H fun vs H1 => ∃ a xs, vs = [.ref a] ∧ SqT K H1 a xs ∧ R (IteT K a) H1
theorem pi_enumT {X : Cx} {e : Expr} {ta : TA} {p pos tpos : Pos} {elts : List Expr} {kk : Nat} (hg : Gl X "enumerate") (hm : X.mg "enumerate" = none) (ha : PA X [e] ta) (hs : starEach [e] X.env = [(false, eval e X.env)] := by rfl) :
    PI X (.Tuple elts kk tpos) (.Call (.Name "enumerate" p) [e] [] pos) (iEnumT X.K ta) := by
  refine ⟨fun pins s σ H R I h => ?_⟩
  refine Call_ (ld_blt I hg hm boot_enumerate (PyProof.Rows.callWith_type1 (thn (ha.run pos pins s σ H _ I h) fun us s1 ⟨vs, H1, I1, r1, q1⟩ => ?_) hs rfl))
  obtain ⟨a, xs, ex, hq, q⟩ := q1
  subst ex
  cases r1 with
  | cons r rr =>
    cases rr
    cases r
    obtain ⟨its, rv, p', hz⟩ := I1.tuple hq
    obtain ⟨o1, ho1, _⟩ := id p'
    have hlt : a < s1.heap.objs.size := Heap.lt_size ho1
    refine sl_enum_tup (show s1.heap.IsTuple a its.toArray from p') fun h' he hit hsz hk => wpAny_pyIter_enum he ?_
    have I2 : Inv X pins σ H1 { s1 with heap := h' } := I1.kept (t' := s1.toks) hk
    refine ⟨s1.heap.objs.size + 1, [s1.heap.objs.size + 1, s1.heap.objs.size], _, _, H1, rfl, I2, turn_enumT a (s1.heap.objs.size + 1) s1.heap.objs.size (Nat.ne_of_lt (Nat.lt_succ_of_lt hlt)) (Nat.ne_of_lt hlt), ⟨⟨.none, he⟩, hit, Nat.succ_ne_self _⟩, fun b hb => ?_, q⟩
    have e' : b = s1.heap.objs.size + 1 ∨ b = s1.heap.objs.size := by simpa using hb
    have hle : s1.heap.objs.size ≤ b := by
      rcases e' with z | z
      · rw [z]; exact Nat.le_add_right _ _
      · rw [z]; exact Nat.le_refl _
    exact I1.fpOk hle (I1.hok.fresh hle)
theorem walk_enumT {K : PySem.W.Frag} {a : Addr} {xs : List V} : Walk (IteT K a) xs.length (fun H => SqT K H a xs) (YPair (fun i => some (.int (i : Nat))) (fun i => xs[i]?)) := by
  refine ⟨fun i _ hi q => ⟨xs, xs[i], q, by simp [hi]⟩, fun _ q => ⟨xs, q, rfl⟩, fun i H v H' _ q y => ?_⟩
  obtain ⟨T, x, h1, h2, h3, h4⟩ := y
  exact ⟨T, .int (i : Nat), x, h1, h2, h3, rfl, h4 xs q⟩
theorem pi_enumTK (K : PySem.W.Frag) {X : Cx} {mg : Str → Option Value} {e : Expr} {t : TA} {p pos tpos : Pos} {elts : List Expr} {kk : Nat} (hm : mg "enumerate" = none) (ha : PA X [e] t) (hX : X.K = K ∧ X.mg = mg := by exact ⟨rfl, rfl⟩) (hg : Gl X "enumerate" := by rfl) (hs : starEach [e] X.env = [(false, eval e X.env)] := by rfl) :
    PI X (.Tuple elts kk tpos) (.Call (.Name "enumerate" p) [e] [] pos) (iEnumT K t) := by
  obtain ⟨rfl, rfl⟩ := hX
  exact pi_enumT hg hm ha hs
theorem wd_enumT {K : PySem.W.Frag} {ta : TE} {ρ : Rho} {ds : List Dt} (h : EdA (tCons ta tNil) ρ [dTup K ds]) : Wd (iEnumT K (tCons ta tNil)) ρ (numbered K ds) := fun H σ e R q => h H σ e _ fun vs H1 e1 p1 => by
  obtain ⟨v, rfl, p, us, rfl, b, c⟩ := all2_1 p1
  refine ⟨p, us, rfl, b, q _ H1 e1 (itok_of (walk_enumT (K := K) (a := p) (xs := us)) (by rw [numbered_len, c.len]) (fun H2 e2 => ex_t e2 b) fun i d H2 x H3 e2 hd y => ?_)⟩
  obtain ⟨e0, h0, rfl⟩ := numbered_at hd
  refine pair_ok (fun v hv => by cases hv; rfl) (fun v hv => ?_) y
  obtain ⟨w, hw, pw⟩ := (c.mono e2).get h0
  rw [hv] at hw
  cases hw
  exact pw
end Sl
/-! Sl4: new tuples, keys of dicts, data compared, bounds. -/
namespace Sl
open PySem PySem.Spec PyProof.Rows L2 StX RZ
open Evl (Ex ex_l ex_t ex_rd sq_of st_of sz_of sz_lt fresh_back)
section
variable {K : PySem.W.Frag} {ρ : Rho} {ta tb tc te tx : TE} {x y z d : Dt}
/-! ### a tuple that the call has made -/
def nTup (ds : List Dt) : Dt := ⟨fun H v => ∃ p vs, v = .ref p ∧ H p = some (.tup vs) ∧ All2 H ds vs, fun e ⟨p, vs, a, b, c⟩ => ⟨p, vs, a, e _ _ b, c.mono e⟩⟩
theorem ed_tupN {t : TA} {ds : List Dt} (h : EdA t ρ ds) (hl : ds.length ≤ 100000) : Ed (tTup t) ρ (nTup ds) := fun H σ e Q q =>
  h H σ e _ fun vs H1 e1 p1 => ⟨sz_of (by rw [← p1.len]; exact hl), fun p hp => q _ _ (e1.trans (Ex.new hp)) ⟨p, vs, rfl, upd_same, p1.mono (Ex.new hp)⟩⟩
theorem nTup_w {ds : List Dt} {H : Hp} {v : V} (h : (nTup ds).P H v) : (dTup K ds).P H v := by
  obtain ⟨p, vs, a, b, c⟩ := h
  exact ⟨p, vs, a, st_of b, c⟩
theorem ed_w {ds : List Dt} (h : Ed te ρ (nTup ds)) : Ed te ρ (dTup K ds) := fun H σ e Q q => h H σ e Q fun v H' e' p => q v H' e' (nTup_w p)
abbrev nTupI (ns : List Int) : Dt := nTup (ns.map fun n => dI n)
/-! ### dicts -/
theorem ed_dget {kvs : List (Key × V)} {s : Str} {v : V} (ha : Ed ta ρ (dDK kvs)) (hb : Ed tb ρ (dS s)) (h : valV kvs (Sum.inr s) = some v) : Ed (tDGet ta tb) ρ (dV v) := fun H σ e Q q =>
  ha H σ e _ fun u H1 e1 ⟨a, h1, h2⟩ => hb H1 σ (e.mono e1) _ fun w H2 e2 p => by
    have p' : w = .str s := p
    subst p'
    exact ⟨a, v, h1, h ▸ DGet.k (k := Sum.inr s) (e2 _ _ h2), q v H2 (e1.trans e2) rfl⟩
theorem ed_inDK {kvs : List (Key × V)} {s : Str} (ha : Ed ta ρ (dS s)) (hb : Ed tb ρ (dDK kvs)) : Ed (tDIn ta tb) ρ (dB (valV kvs (Sum.inr s)).isSome) := fun H σ e Q q =>
  ha H σ e _ fun u H1 e1 p => hb H1 σ (e.mono e1) _ fun w H2 e2 ⟨a, h1, h2⟩ => by
    have p' : u = .str s := p
    subst p'
    exact ⟨a, _, h1, DGet.k (k := Sum.inr s) h2, q _ H2 (e1.trans e2) rfl⟩
theorem ed_notinDK {kvs : List (Key × V)} {s : Str} (ha : Ed ta ρ (dS s)) (hb : Ed tb ρ (dDK kvs)) : Ed (tDNotIn ta tb) ρ (dB (!(valV kvs (Sum.inr s)).isSome)) := fun H σ e Q q =>
  ha H σ e _ fun u H1 e1 p => hb H1 σ (e.mono e1) _ fun w H2 e2 ⟨a, h1, h2⟩ => by
    have p' : u = .str s := p
    subst p'
    exact ⟨a, _, h1, DGet.k (k := Sum.inr s) h2, q _ H2 (e1.trans e2) rfl⟩
theorem ints_key : ∀ ns : List Int, ns.map V.int = (ns.map (fun n => (Sum.inl n : Key))).map kV
  | [] => rfl
  | _ :: ns => congrArg (_ :: ·) (ints_key ns)
theorem ed_dget2T {kvs : List (List Key × V)} {ns : List Int} {v : V} (ha : Ed ta ρ (dDT kvs)) (hb : Ed tb ρ (nTupI ns)) (hc : Ed tc ρ (dV v)) : Ed (tDGet2 ta tb tc) ρ (dV ((valV kvs (ns.map fun n => (Sum.inl n : Key))).getD v)) := fun H σ e Q q =>
  ha H σ e _ fun u H1 e1 ⟨a, h1, h2⟩ => ⟨a, h1, .inr ⟨kvs, .inl h2⟩, hb H1 σ (e.mono e1) _ fun w H2 e2 ⟨p, vs, p1, p2, p3⟩ => hc H2 σ ((e.mono e1).mono e2) _ fun w3 H3 e3 p4 => by
    have p4' : w3 = v := p4
    have p3' := ints_all2 p3
    subst p1 p4' p3'
    exact ⟨_, DGet.t (e3 _ _ (e2 _ _ h2)) (by rw [← ints_key]; exact e3 _ _ p2), q _ H3 ((e1.trans e2).trans e3) rfl⟩⟩
/-! ### data compared -/
def PD (K : PySem.W.Frag) (x : Dt) (d : PyData) : Prop := ∀ H v, x.P H v → Dp K H v d
theorem pd_I {i : Int} : PD K (dI i) (.int i) := fun H v h => by rw [show v = .int i from h]; exact .int i
theorem pd_S {s : Str} : PD K (dS s) (.str s) := fun H v h => by rw [show v = .str s from h]; exact .str s
theorem pd_B {b : Bool} : PD K (dB b) (.bool b) := fun H v h => by rw [show v = .bl b from h]; exact .bl b
theorem pd_all {H : Hp} : ∀ {ds : List Dt} {es : List PyData} {vs : List V}, ds.length = es.length → (∀ (i : Nat) d e, ds[i]? = some d → es[i]? = some e → PD K d e) → All2 H ds vs → DpAll K H vs es
  | [], [], [], _, _, _ => .nil
  | d :: ds, e :: es, v :: vs, hl, h, a => .cons (h 0 d e rfl rfl H v a.1) (pd_all (by simpa using hl) (fun i d e h1 h2 => h (i + 1) d e (by simpa using h1) (by simpa using h2)) a.2)
  | [], [], _ :: _, _, _, a => a.elim
  | _ :: _, _, [], _, _, a => a.elim
  | [], _ :: _, _, hl, _, _ => by simp at hl
  | _ :: _, [], _, hl, _, _ => by simp at hl
theorem pd_tup {ds : List Dt} {es : List PyData} (hl : ds.length = es.length) (h : ∀ (i : Nat) d e, ds[i]? = some d → es[i]? = some e → PD K d e) : PD K (dTup K ds) (.tuple es) := fun H v ⟨p, vs, a, b, c⟩ => by
  subst a
  exact .tup b (pd_all hl h c)
theorem pd_lst {ds : List Dt} {es : List PyData} (hl : ds.length = es.length) (h : ∀ (i : Nat) d e, ds[i]? = some d → es[i]? = some e → PD K d e) : PD K (dLst K ds) (.list es) := fun H v ⟨p, vs, a, b, c⟩ => by
  subst a
  exact .lst (sq_of b) (pd_all hl h c)
theorem pd_map {α : Type} {f : α → Dt} {g : α → PyData} (h : ∀ a, PD K (f a) (g a)) (l : List α) : ∀ (i : Nat) d e, (l.map f)[i]? = some d → (l.map g)[i]? = some e → PD K d e := fun i d e h1 h2 => by
  rw [List.getElem?_map] at h1 h2
  cases q : l[i]? with
  | none =>
    rw [q] at h1
    cases h1
  | some a =>
    rw [q] at h1 h2
    cases h1
    cases h2
    exact h a
theorem pd_tupM {α : Type} {f : α → Dt} {g : α → PyData} (l : List α) (h : ∀ a, PD K (f a) (g a)) : PD K (dTup K (l.map f)) (.tuple (l.map g)) := pd_tup (by simp) (pd_map h l)
theorem pd_lstM {α : Type} {f : α → Dt} {g : α → PyData} (l : List α) (h : ∀ a, PD K (f a) (g a)) : PD K (dLst K (l.map f)) (.list (l.map g)) := pd_lst (by simp) (pd_map h l)
theorem ed_eqD {d e : PyData} (ha : Ed ta ρ x) (hb : Ed tb ρ y) (h1 : PD K x d) (h2 : PD K y e) (s1 : SeqAt.shaped d = true) (s2 : SeqAt.shaped e = true) : Ed (tOp (rEqD K) ta tb) ρ (dB (PyData.eqv d e)) := ed_op ha hb fun H u v p q Q k => ⟨d, e, h1 H u p, h2 H v q, s1, s2, k _ H (Ex.refl H) rfl⟩
theorem ed_neD {d e : PyData} (ha : Ed ta ρ x) (hb : Ed tb ρ y) (h1 : PD K x d) (h2 : PD K y e) (s1 : SeqAt.shaped d = true) (s2 : SeqAt.shaped e = true) : Ed (tOp (rNeD K) ta tb) ρ (dB (!PyData.eqv d e)) := ed_op ha hb fun H u v p q Q k => ⟨d, e, h1 H u p, h2 H v q, s1, s2, k _ H (Ex.refl H) rfl⟩
def rInTD (K : PySem.W.Frag) (neg : Bool) : R2 := fun x y H Q => ∃ d ds, Dp K H x d ∧ Dp K H y (.tuple ds) ∧ SeqAt.shaped d = true ∧ PyData.canLayAll0 ds = true ∧ Q (.bl (if neg then !ds.any fun z => PyData.eqv z d else ds.any fun z => PyData.eqv z d)) H
theorem op_InTD {X : Cx} (hu : X.A.units + 65 < cLine) : OpR X (compareOp .In) (rInTD X.K false) := by
  intro pins s σ H x y v u Q I rx ry h
  obtain ⟨d, ds, hd, he, sd, se, q⟩ := h
  obtain ⟨as, r1⟩ := Dp.reads I d x v hd rx
  obtain ⟨bs, r2⟩ := Dp.reads I (.tuple ds) y u he ry
  exact SeqAt.in_tuple_reads r2 r1 se (SeqAt.canLay_of_shaped sd) (room_in_shaped sd hu) ⟨.bl _, H, I, rfl, q⟩
theorem op_notInTD {X : Cx} (hu : X.A.units + 65 < cLine) : OpR X (compareOp .NotIn) (rInTD X.K true) := by
  intro pins s σ H x y v u Q I rx ry h
  obtain ⟨d, ds, hd, he, sd, se, q⟩ := h
  obtain ⟨as, r1⟩ := Dp.reads I d x v hd rx
  obtain ⟨bs, r2⟩ := Dp.reads I (.tuple ds) y u he ry
  exact SeqAt.notIn_tuple_reads r2 r1 se (SeqAt.canLay_of_shaped sd) (room_in_shaped sd hu) ⟨.bl _, H, I, rfl, q⟩
end
theorem opK_InTD {X : Cx} {A : Around} (K : PySem.W.Frag) (hu : A.units + 65 < cLine) (hX : X.K = K ∧ X.A = A := by exact ⟨rfl, rfl⟩) : OpR X (compareOp .In) (rInTD K false) := by
  obtain ⟨rfl, rfl⟩ := hX
  exact op_InTD hu
theorem opK_notInTD {X : Cx} {A : Around} (K : PySem.W.Frag) (hu : A.units + 65 < cLine) (hX : X.K = K ∧ X.A = A := by exact ⟨rfl, rfl⟩) : OpR X (compareOp .NotIn) (rInTD K true) := by
  obtain ⟨rfl, rfl⟩ := hX
  exact op_notInTD hu
theorem hu65 {k : Nat} {A : Around} (r : Room k A) : A.units + 65 < cLine := by have := r.un; omega
/-! ### pairs -/
def pairP (p : Int × Int) : PyData := .tuple [.int p.1, .int p.2]
theorem pairP_eqv (p q : Int × Int) : PyData.eqv (pairP p) (pairP q) = decide (p = q) := by
  obtain ⟨a, b⟩ := p
  obtain ⟨c, d⟩ := q
  show ((a == c) && ((b == d) && true)) = _
  by_cases h1 : a = c
  · by_cases h2 : b = d
    · subst h1 h2
      simp
    · have : ¬ ((a, b) = (c, d)) := fun e => h2 (Prod.mk.inj e).2
      simp [h2]
  · have : ¬ ((a, b) = (c, d)) := fun e => h1 (Prod.mk.inj e).1
    simp [h1]
theorem pairP_shaped (p : Int × Int) : SeqAt.shaped (pairP p) = true := by
  obtain ⟨a, b⟩ := p
  simp [SeqAt.shaped, pairP, PyData.canLay0, PyData.canLayAll0, PyData.depth, PyData.depthAll]
theorem pairPs_lay : ∀ l : List (Int × Int), PyData.canLayAll0 (l.map pairP) = true
  | [] => rfl
  | p :: l => by
    have h1 := SeqAt.canLay_of_shaped (pairP_shaped p)
    have h2 := pairPs_lay l
    simp [PyData.canLayAll0, h1, h2]
theorem pd_pair {K : PySem.W.Frag} (p : Int × Int) : PD K (tupI K (pairI p)) (pairP p) := pd_tup rfl fun i d e h1 h2 => match i, h1, h2 with
  | 0, h1, h2 => by cases h1; cases h2; exact pd_I
  | 1, h1, h2 => by cases h1; cases h2; exact pd_I
  | _ + 2, h1, _ => by simp [pairI] at h1
theorem any_pair (l : List (Int × Int)) (q : Int × Int) : (l.map pairP).any (fun z => PyData.eqv z (pairP q)) = decide (q ∈ l) := by
  rw [List.any_map]
  apply Bool.eq_iff_iff.mpr
  rw [List.any_eq_true, decide_eq_true_iff]
  constructor
  · rintro ⟨p, hp, e⟩
    have e2 : PyData.eqv (pairP p) (pairP q) = true := e
    rw [pairP_eqv] at e2
    rw [← of_decide_eq_true e2]
    exact hp
  · intro h
    exact ⟨q, h, by show PyData.eqv (pairP q) (pairP q) = true; rw [pairP_eqv]; simp⟩
section
variable {K : PySem.W.Frag} {ρ : Rho} {ta tb tc : TE} {S : Sty} {i j l z : Int}
/-- a pair that is in no pair of a tuple of pairs -/
theorem ed_notinP {p : Int × Int} {bs : List (Int × Int)} (ha : Ed ta ρ (nTupI (pairI p))) (hb : Ed tb ρ (dTup K (bs.map fun p => tupI K (pairI p)))) : Ed (tOp (rInTD K true) ta tb) ρ (dB (!decide (p ∈ bs))) := ed_op (ed_w (K := K) ha) hb fun H u v hu hv Q k =>
  ⟨pairP p, bs.map pairP, pd_pair p H u hu, pd_tupM bs (fun q => pd_pair q) H v hv, pairP_shaped p, pairPs_lay bs, k _ H (Ex.refl H) (by show V.bl _ = V.bl _; rw [any_pair]; rfl)⟩
theorem valV_far (q : Int × Int) : ∀ l : List ((Int × Int) × Int), valV (l.map fun p => (([Sum.inl p.1.1, Sum.inl p.1.2] : List Key), V.int p.2)) ((pairI q).map fun n => (Sum.inl n : Key)) = (l.lookup q).map V.int
  | [] => rfl
  | p :: l => by
    by_cases e : p.1 = q
    · subst e
      have e3 : (([Sum.inl p.1.1, Sum.inl p.1.2] : List Key) = (pairI p.1).map fun n => (Sum.inl n : Key)) := rfl
      rw [List.map_cons, valV_pos e3, List.lookup_cons]
      simp
    · have e2 : ¬ (([Sum.inl p.1.1, Sum.inl p.1.2] : List Key) = (pairI q).map fun n => (Sum.inl n : Key)) := fun h => e (by
        have h' : ([Sum.inl p.1.1, Sum.inl p.1.2] : List Key) = [Sum.inl q.1, Sum.inl q.2] := h
        injection h' with a b
        injection b with b _
        exact Prod.ext (Sum.inl.inj a) (Sum.inl.inj b))
      rw [List.map_cons, valV_neg e2, valV_far q l, List.lookup_cons]
      have : (q == p.1) = false := beq_eq_false_iff_ne.mpr fun h => e h.symm
      rw [this]
theorem ed_dgetF (ha : Ed ta ρ (dDT (farOf S))) (hb : Ed tb ρ (nTupI (pairI (rp i j)))) (hc : Ed tc ρ (dI 0)) : Ed (tDGet2 ta tb tc) ρ (dI (S.dist i j)) := by
  refine ed_is (ed_dget2T ha hb hc) ?_
  unfold farOf Sty.dist
  rw [valV_far]
  cases S.far.lookup (rp i j) <;> rfl
/-! ### bounds -/
theorem px_bd (h : S.Ok) : 1 ≤ px S z ∨ True := Or.inr trivial
theorem sz_bd (h : S.Ok) (hi : S.In i) : 0 ≤ sz S z i ∧ sz S z i ≤ 9 := (hi.ok h).at_bd z
theorem cmul_s {m : Int} (h : 0 ≤ l ∧ l ≤ 100) : CMul l m := .inl ⟨by omega, by omega⟩
theorem cmul_sz {m : Int} (h : S.Ok) (hi : S.In i) : CMul (sz S z i) m := .inl ⟨by have := sz_bd (z := z) h hi; omega, by have := sz_bd (z := z) h hi; omega⟩
theorem most_bd (h : S.Ok) (hi : S.In i) : 0 ≤ (S.row i).most ∧ (S.row i).most ≤ 100 := by
  have := hi.ok h
  have := this.l0
  have := (hi.ok h).m0
  have := (hi.ok h).m3
  have := (hi.ok h).l9
  omega
end
end Sl
/-! Sl4b: more walks; a list of the def's own that grows. -/
namespace Sl
open PySem PySem.Spec PyProof.Rows L2 StX RZ
open Evl (Ex ex_l ex_t ex_rd sq_of st_of sz_of sz_lt fresh_back)
section
variable {K : PySem.W.Frag} {ρ ρ' ρ1 : Rho} {ta tb tc te tx : TE} {t u : TT} {x y z d : Dt} {i j : Int} {a b c : Bool}
theorem eda_is {t : TA} {ds es : List Dt} (h : EdA t ρ ds) (e : ds = es) : EdA t ρ es := e ▸ h
theorem wd_is {wi : TI} {ds es : List Dt} (h : Wd wi ρ ds) (e : ds = es) : Wd wi ρ es := e ▸ h
theorem ints0 (n : Nat) : intsFrom 0 n = (List.range n).map fun (k : Nat) => dI (k : Int) := by
  unfold intsFrom
  simp
theorem wd_r1 {m : Int} {n : Nat} (h : EdA (tCons ta tNil) ρ [dI m]) (e : m = (n : Int)) (hn : n ≤ 100000) : Wd (iRng1 (tCons ta tNil)) ρ ((List.range n).map fun (k : Nat) => dI (k : Int)) := by
  subst e
  rw [← ints0]
  exact wd_range1 h hn
theorem walk_zipT {a b : Addr} {xs ys : List V} {n : Nat} (hn : n = min xs.length ys.length) : Walk (ItzT K a b) n (fun H => SqT K H a xs ∧ SqT K H b ys) (YPair (fun i => xs[i]?) (fun i => ys[i]?)) := by
  subst hn
  refine ⟨fun i _ hi q => ?_, fun _ q => ⟨xs, ys, q.1, q.2, by omega⟩, fun i H v H' _ q y => ?_⟩
  · have h1 : i < xs.length := by omega
    have h2 : i < ys.length := by omega
    exact ⟨xs, ys, xs[i], ys[i], q.1, q.2, by simp [h1], by simp [h2]⟩
  · obtain ⟨T, x, z, h1, h2, h3, h4, h5⟩ := y
    exact ⟨T, x, z, h1, h2, h3, h4 xs q.1, h5 ys q.2⟩
def zipD (K : PySem.W.Frag) (ds es : List Dt) : List Dt := (ds.zip es).map fun p => dTup K [p.1, p.2]
theorem zipD_at {ds es : List Dt} {i : Nat} {d : Dt} (h : (zipD K ds es)[i]? = some d) : ∃ x y, ds[i]? = some x ∧ es[i]? = some y ∧ d = dTup K [x, y] := by
  unfold zipD at h
  rw [List.getElem?_map] at h
  cases q : (ds.zip es)[i]? with
  | none =>
    rw [q] at h
    cases h
  | some p =>
    rw [q] at h
    obtain ⟨h1, h2⟩ := List.getElem?_zip_eq_some.mp q
    exact ⟨p.1, p.2, h1, h2, (Option.some.inj h).symm⟩
theorem wd_zipT {ds es : List Dt} (h : EdA (tCons ta (tCons tb tNil)) ρ [dTup K ds, dTup K es]) : Wd (iZipA K (tCons ta (tCons tb tNil))) ρ (zipD K ds es) := fun H σ e R q => h H σ e _ fun vs H1 e1 p1 => by
  obtain ⟨v, w, rfl, ⟨p, us, rfl, b, c⟩, ⟨p', us', rfl, b', c'⟩⟩ := all2_2 p1
  refine ⟨p, p', us, us', rfl, .inr ⟨b, b', q _ H1 e1 (itok_of (walk_zipT (K := K) (a := p) (b := p') (xs := us) (ys := us') rfl) (by simp [zipD, c.len, c'.len]) (fun H2 e2 => ⟨ex_t e2 b, ex_t e2 b'⟩) fun i d H2 x H3 e2 hd y => ?_)⟩⟩
  obtain ⟨x0, y0, h0, h1, rfl⟩ := zipD_at hd
  refine pair_ok (fun v hv => ?_) (fun v hv => ?_) y
  · obtain ⟨w, hw, pw⟩ := (c.mono e2).get h0
    rw [hv] at hw
    cases hw
    exact pw
  · obtain ⟨w, hw, pw⟩ := (c'.mono e2).get h1
    rw [hv] at hw
    cases hw
    exact pw
/-! ### a list of the def's own -/
def mrg : Rho → Rho → Rho
  | a :: ρ, b :: ρ' => (match b with | some d => some d | none => a) :: mrg ρ ρ'
  | _, _ => []
structure Own (K : PySem.W.Frag) (B H : Hp) (k : Nat) (ds : List Dt) (ρb ρi : Rho) (σ : L2.St) : Prop where
  at_ : ∃ p vs, σ[k]? = some (some (.ref p)) ∧ H p = some (.lst vs) ∧ B p = none ∧ All2 H ds vs
  ex : Ex B H
  imm : ∀ d ∈ ds, Imm d
  eb : EnvOk B ρb σ
  ei : EnvOk H ρi σ
  ii : ∀ d, some d ∈ ρi → Imm d
theorem mrg_ok {H : Hp} : ∀ {ρ ρ' : Rho} {σ : L2.St}, EnvOk H ρ σ → EnvOk H ρ' σ → EnvOk H (mrg ρ ρ') σ
  | [], [], [], _, _ => True.intro
  | a :: ρ, b :: ρ', s :: σ, h1, h2 => ⟨fun d hd => by
      cases b with
      | some e => exact h2.1 d hd
      | none => exact h1.1 d hd, mrg_ok h1.2 h2.2⟩
  | [], _ :: _, [], _, h => h.elim
  | _ :: _, _, [], h, _ => h.elim
  | [], _, _ :: _, h, _ => h.elim
  | _ :: _, [], _ :: _, _, h => h.elim
theorem envok_ext {H : Hp} {ρ : Rho} {σ : L2.St} {k : Nat} {v : V} {d : Dt} (hk : σ[k]? = some (some v)) (hv : d.P H v) (h : EnvOk H ρ σ) : EnvOk H (ρ.set k (some d)) σ := by
  have e : σ.set k (some v) = σ := by
    obtain ⟨h1, h2⟩ := List.getElem?_eq_some_iff.mp hk
    apply List.ext_getElem?
    intro n
    rw [List.getElem?_set]
    split
    · rename_i hn
      subst hn
      exact hk.symm
    · rfl
  have := h.set hv k
  rw [e] at this
  exact this
theorem Own.env {B H : Hp} {k : Nat} {ds : List Dt} {ρb ρi : Rho} {σ : L2.St} (o : Own K B H k ds ρb ρi σ) : EnvOk H ((mrg ρb ρi).set k (some (dLst K ds))) σ := by
  obtain ⟨p, vs, h1, h2, h3, h4⟩ := o.at_
  exact envok_ext h1 ⟨p, vs, rfl, h2, h4⟩ (mrg_ok (o.eb.mono o.ex) o.ei)
theorem imm_env {H H' : Hp} (k : Kx H H') : ∀ {ρ : Rho} {σ : L2.St}, (∀ d, some d ∈ ρ → Imm d) → EnvOk H ρ σ → EnvOk H' ρ σ
  | [], [], _, _ => True.intro
  | _ :: ρ, _ :: _, i, h => ⟨fun d hd => let ⟨v, a, b⟩ := h.1 d hd; ⟨v, a, i d (by rw [hd]; exact List.mem_cons_self) k b⟩, imm_env k (fun d hd => i d (List.mem_cons_of_mem _ hd)) h.2⟩
  | [], _ :: _, _, h => h.elim
  | _ :: _, [], _, h => h.elim
theorem Own.mono {B H H' : Hp} {k : Nat} {ds : List Dt} {ρb ρi : Rho} {σ : L2.St} (e : Ex H H') (o : Own K B H k ds ρb ρi σ) : Own K B H' k ds ρb ρi σ := by
  obtain ⟨p, vs, h1, h2, h3, h4⟩ := o.at_
  exact ⟨⟨p, vs, h1, e _ _ h2, h3, h4.mono e⟩, o.ex.trans e, o.imm, o.eb, o.ei.mono e, o.ii⟩
theorem mem_set_some {ρ : Rho} {i : Nat} {e : Dt} {d : Dt} (h : some d ∈ ρ.set i (some e)) : d = e ∨ some d ∈ ρ := by
  rcases List.mem_or_eq_of_mem_set h with h | h
  · exact .inr h
  · exact .inl (Option.some.inj h)
theorem Own.setI {B H : Hp} {k i : Nat} {ds : List Dt} {ρb ρi : Rho} {σ : L2.St} {v : V} (o : Own K B H k ds ρb ρi σ) (hv : d.P H v) (hi : Imm d) (hk : i ≠ k) : Own K B H k ds (ρb.set i none) (ρi.set i (some d)) (σ.set i (some v)) := by
  obtain ⟨p, vs, h1, h2, h3, h4⟩ := o.at_
  refine ⟨⟨p, vs, by rw [List.getElem?_set_ne hk]; exact h1, h2, h3, h4⟩, o.ex, o.imm, o.eb.unset _ i, o.ei.set hv i, fun d' hd => ?_⟩
  rcases mem_set_some hd with rfl | hd
  · exact hi
  · exact o.ii d' hd
/-- what a statement does with the own list -/
inductive Out1 where
  | ret (d : Dt) | nx (ds : List Dt) (ρb ρi : Rho)
def Out1.ok (K : PySem.W.Frag) : Out1 → Hp → Nat → Ends → Prop
  | .ret d, B, _, D => ∀ v H', Ex B H' → d.P H' v → D.rt v H'
  | .nx ds ρb ρi, B, k, D => ∀ σ' H', Own K B H' k ds ρb ρi σ' → D.nx σ' H'
def S1 (K : PySem.W.Frag) (k : Nat) (t : TS) (ds : List Dt) (ρb ρi : Rho) (o : Out1) : Prop := ∀ B H σ D, Own K B H k ds ρb ρi σ → o.ok K B k D → t D σ H
variable {s1 s2 : TS} {k : Nat} {ds ds' es : List Dt} {ρb ρi ρb' ρi' : Rho} {o : Out1}
abbrev env1 (K : PySem.W.Frag) (k : Nat) (ds : List Dt) (ρb ρi : Rho) : Rho := (mrg ρb ρi).set k (some (dLst K ds))
theorem nones_imm {n : Nat} : ∀ d : Dt, some d ∈ List.replicate n (none : Option Dt) → Imm d := fun d h => by
  have := (List.mem_replicate.mp h).2
  cases this
theorem nones_ok {H : Hp} : ∀ {σ : L2.St}, EnvOk H (List.replicate σ.length none) σ
  | [] => True.intro
  | _ :: _ => ⟨(fun _ h => nomatch h), nones_ok⟩
/-- x = [] .. -/
theorem sd_own (h : S1 K k s2 [] (ρ.set k none) (List.replicate ρ.length none) (.ret d)) (hk : k < ρ.length) : Sd (tSeq (tAsg (tLst tNil) (gName k)) s2) ρ (.ret d) := fun H σ D e q => ⟨by show 0 ≤ _; omega, fun p hp => h H _ _ D ⟨⟨p, [], by
    rw [List.getElem?_set_self (by rw [← e.len]; exact hk)], upd_same, hp, True.intro⟩, Ex.new hp, (fun _ h => nomatch h), e.unset _ k, by
    have := nones_ok (H := upd H p (.lst [])) (σ := σ.set k (some (.ref p)))
    rw [List.length_set, ← e.len] at this
    exact this, nones_imm⟩ q⟩
/-- x, y = [], e -/
theorem sd_ownP {m : Nat} (he : Ed te ρ y) (hi : Imm y) (h : S1 K k s2 [] ((ρ.set k none).set m none) ((List.replicate ρ.length none).set m (some y)) (.ret d)) (hk : k < ρ.length) (hm : m ≠ k) : Sd (tSeq (tPar k m (tCons (tLst tNil) (tCons te tNil))) s2) ρ (.ret d) := fun H σ D e q => ⟨by show 0 ≤ _; omega, fun p hp =>
  he _ σ (e.mono (Ex.new hp)) _ fun v H1 e1 pv => ⟨.ref p, v, rfl, h H H1 _ D ⟨⟨p, [], by
    rw [List.getElem?_set_ne hm, List.getElem?_set_self (by rw [← e.len]; exact hk)], e1 _ _ upd_same, hp, True.intro⟩, (Ex.new hp).trans e1, (fun _ h => nomatch h), (e.unset _ k).unset _ m, by
    have := nones_ok (H := H1) (σ := σ.set k (some (.ref p)))
    rw [List.length_set, ← e.len] at this
    exact this.set pv m, fun d' hd => by
      rcases mem_set_some hd with rfl | hd
      · exact hi
      · exact nones_imm d' hd⟩ q⟩⟩
theorem s1_seq (h1 : S1 K k s1 ds ρb ρi (.nx ds' ρb' ρi')) (h2 : S1 K k s2 ds' ρb' ρi' o) : S1 K k (tSeq s1 s2) ds ρb ρi o := fun B H σ D e q => h1 B H σ { D with nx := s2 D } e fun σ' H' en => h2 B H' σ' D en q
theorem s1_next : S1 K k tNext ds ρb ρi (.nx ds ρb ρi) := fun B H σ D e q => q σ H e
theorem s1_ret (h : Ed te (env1 K k ds ρb ρi) d) : S1 K k (tRet te) ds ρb ρi (.ret d) := fun B H σ D e q => h H σ e.env _ fun v H1 e1 p => q v H1 (e.ex.trans e1) p
theorem s1_if (h : Td t (env1 K k ds ρb ρi) a) (h1 : a = true → S1 K k s1 ds ρb ρi o) (h2 : a = false → S1 K k s2 ds ρb ρi o) : S1 K k (tIfS t s1 s2) ds ρb ρi o := fun B H σ D e q => h H σ e.env _ fun H1 e1 => by
  cases a with
  | true => exact h1 rfl B H1 σ D (e.mono e1) q
  | false => exact h2 rfl B H1 σ D (e.mono e1) q
theorem s1_set {i : Nat} (h : Ed te (env1 K k ds ρb ρi) d) (hi : Imm d) (hk : i ≠ k := by decide) : S1 K k (tAsg te (gName i)) ds ρb ρi (.nx ds (ρb.set i none) (ρi.set i (some d))) := fun B H σ D e q => h H σ e.env _ fun v H1 e1 p => q _ H1 ((e.mono e1).setI p hi hk)
theorem s1_aug {i : Nat} {m n : Int} {f : Int → Int → Int} (hx : (env1 K k ds ρb ρi)[i]? = some (some (dI m))) (h : Ed te (env1 K k ds ρb ρi) (dI n)) (hk : i ≠ k := by decide) : S1 K k (tAug i te (ipI f)) ds ρb ρi (.nx ds (ρb.set i none) (ρi.set i (some (dI (f m n))))) := fun B H σ D e q => by
  obtain ⟨v, hv, pv⟩ := e.env.get hx
  have pv' : v = .int m := pv
  subst pv'
  exact ⟨.int m, hv, h H σ e.env _ fun w H1 e1 p => ⟨m, n, rfl, p, q _ H1 ((e.mono e1).setI rfl (imm_V _) hk)⟩⟩
theorem s1_app (h : Ed te (env1 K k ds ρb ρi) d) (hi : Imm d) (hz : ds.length < 50000) (hk : k < ρb.length ∧ k < ρi.length) : S1 K k (tDrop (tBM K "list" rAppend (tVar k) (tCons te tNil))) ds ρb ρi (.nx (ds ++ [d]) ρb ρi) := fun B H σ D e q => by
  obtain ⟨p, vs, h1, h2, h3, h4⟩ := e.at_
  refine ⟨.ref p, h1, .inl ⟨rfl, vs, sq_of h2⟩, h H σ e.env _ fun v H1 e1 pv => ?_⟩
  refine ⟨p, vs, v, rfl, rfl, e1 _ _ h2, sz_lt (by rw [← h4.len]; omega), ?_⟩
  have kx : Kx H1 (upd H1 p (.lst (vs ++ [v]))) := Kx.set (e1 _ _ h2)
  refine q σ _ ⟨⟨p, _, h1, upd_same, h3, ?_⟩, Ex.mut (e.ex.trans e1) h3, ?_, e.eb, imm_env kx e.ii (e.ei.mono e1), e.ii⟩
  · refine All2.imm kx ?_ ((h4.mono e1).app ⟨pv, True.intro⟩)
    intro d' hd
    rcases List.mem_append.mp hd with hd | hd
    · exact e.imm d' hd
    · rw [List.mem_singleton.mp hd]
      exact hi
  · intro d' hd
    rcases List.mem_append.mp hd with hd | hd
    · exact e.imm d' hd
    · rw [List.mem_singleton.mp hd]
      exact hi
theorem s1_ext (h : Ed te (env1 K k ds ρb ρi) (dLst K es)) (hi : ∀ d ∈ es, Imm d) (hz : ds.length + es.length < 50000) : S1 K k (tDrop (tBM K "list" rExtend (tVar k) (tCons te tNil))) ds ρb ρi (.nx (ds ++ es) ρb ρi) := fun B H σ D e q => by
  obtain ⟨p, vs, h1, h2, h3, h4⟩ := e.at_
  refine ⟨.ref p, h1, .inl ⟨rfl, vs, sq_of h2⟩, h H σ e.env _ fun v H1 e1 ⟨p2, us, ev, h5, h6⟩ => ?_⟩
  subst ev
  refine ⟨p, p2, vs, us, rfl, rfl, e1 _ _ h2, h5, sz_of (by rw [← h4.len, ← h6.len]; omega), ?_⟩
  have kx : Kx H1 (upd H1 p (.lst (vs ++ us))) := Kx.set (e1 _ _ h2)
  refine q σ _ ⟨⟨p, _, h1, upd_same, h3, ?_⟩, Ex.mut (e.ex.trans e1) h3, ?_, e.eb, imm_env kx e.ii (e.ei.mono e1), e.ii⟩
  · refine All2.imm kx ?_ ((h4.mono e1).app h6)
    intro d' hd
    rcases List.mem_append.mp hd with hd | hd
    · exact e.imm d' hd
    · exact hi d' hd
  · intro d' hd
    rcases List.mem_append.mp hd with hd | hd
    · exact e.imm d' hd
    · exact hi d' hd
/-- what is walked stands in B, or is made of what no list's change touches -/
def ItB (J : It) (ds : List Dt) (B : Hp) : Prop := ∀ (i : Nat) H2, Ex B H2 → (∀ d, ds[i]? = some d → J.go i H2 ∧ ∀ x H3, J.yld i H2 x H3 → Ex H2 H3 ∧ d.P H3 x) ∧ (i = ds.length → J.stop i H2)
def WdB (K : PySem.W.Frag) (wi : TI) (k : Nat) (ds : List Dt) (ρb ρi : Rho) (es : List Dt) : Prop := ∀ B H σ, Own K B H k ds ρb ρi σ → ∀ R : It → Hp → Prop, (∀ J H1, Ex H H1 → ItB J es B → R J H1) → wi σ H R
theorem wdb_list {i : Nat} (h : ρb[i]? = some (some (dLst K es))) : WdB K (iList K (tVar i)) k ds ρb ρi es := fun B H σ e R q => by
  obtain ⟨v, h1, p, vs, a, b, c⟩ := e.eb.get h
  subst a
  exact ⟨_, h1, p, rfl, ⟨vs, sq_of (e.ex _ _ b)⟩, q _ H (Ex.refl H) (itok_of (walk_list (K := K) (a := p) (xs := vs)) c.len (fun H2 e2 => sq_of (e2 _ _ b)) fun i d H2 x H3 e2 hd y => yat_ok c e2 hd y)⟩
theorem wdb_r1 {m : Int} {n : Nat} (h : EdA (tCons ta tNil) (env1 K k ds ρb ρi) [dI m]) (e : m = (n : Int)) (hn : n ≤ 100000) : WdB K (iRng1 (tCons ta tNil)) k ds ρb ρi ((List.range n).map fun (k : Nat) => dI (k : Int)) := fun B H σ o R q => h H σ o.env _ fun vs H1 e1 p1 => by
  obtain ⟨v, rfl, p⟩ := all2_1 p1
  have p' : v = .int m := p
  subst p' e
  refine ⟨(n : Int), rfl, by omega, by omega, q _ H1 e1 ?_⟩
  rw [show ((n : Int)).toNat = n by simp, ← ints0]
  exact itok_of (walk_range (lo := 0) (n := n)) (by simp [intsFrom]) (fun _ _ => trivial) fun i d H2 x H3 e2 hd y => yfn_ok hd y
/-- a for; st i: the own list and what is known ahead of turn i. The target's data: in B, or untouched -/
def GdI (g : TG) (d : Dt) (k : Nat) (ρb ρi ρb' ρi' : Rho) : Prop := ∀ (K : PySem.W.Frag) (ds : List Dt) (v : V) (B H : Hp) (σ : L2.St), d.P H v → Own K B H k ds ρb ρi σ → ∀ Q : L2.St → Hp → Prop, (∀ σ', Own K B H k ds ρb' ρi' σ' → Q σ' H) → g v σ H Q
theorem gdi_name {j : Nat} (hi : Imm d) (hj : j ≠ k := by decide) : GdI (gName j) d k ρb ρi (ρb.set j none) (ρi.set j (some d)) := fun K ds v B H σ p o Q q => q _ (o.setI p hi hj)
def GdIs (g : TGs) (es : List Dt) (k : Nat) (ρb ρi ρb' ρi' : Rho) : Prop := ∀ (K : PySem.W.Frag) (ds : List Dt) (vs : List V) (B H : Hp) (σ : L2.St), All2 H es vs → Own K B H k ds ρb ρi σ → ∀ Q : L2.St → Hp → Prop, (∀ σ', Own K B H k ds ρb' ρi' σ' → Q σ' H) → g vs σ H Q
theorem gdis_nil : GdIs gNil [] k ρb ρi ρb ρi := fun K ds vs B H σ p o Q q => by
  cases vs with
  | nil => exact ⟨rfl, q σ o⟩
  | cons _ _ => exact p.elim
theorem gdis_cons {g : TG} {gs : TGs} {ρb1 ρi1 : Rho} (h : GdI g d k ρb ρi ρb1 ρi1) (hs : GdIs gs es k ρb1 ρi1 ρb' ρi') : GdIs (gCons g gs) (d :: es) k ρb ρi ρb' ρi' := fun K ds vs B H σ p o Q q => by
  cases vs with
  | nil => exact p.elim
  | cons v vs => exact ⟨v, vs, rfl, h K ds v B H σ p.1 o _ fun σ' o' => hs K ds vs B H σ' p.2 o' Q q⟩
theorem gdi_tup {gs : TGs} {K' : PySem.W.Frag} (h : GdIs gs es k ρb ρi ρb' ρi') : GdI (gTup K' es.length gs) (dTup K' es) k ρb ρi ρb' ρi' := fun K ds v B H σ ⟨p, vs, a, b, c⟩ o Q q =>
  ⟨p, vs, a, b, c.len.symm, h K ds vs B H σ c o Q q⟩
theorem Own.wk {B H : Hp} {σ : L2.St} (o : Own K B H k ds ρb ρi σ) (w1 : Wk ρb ρb') (w2 : Wk ρi ρi') (hi : ∀ d, some d ∈ ρi' → Imm d) : Own K B H k ds ρb' ρi' σ := ⟨o.at_, o.ex, o.imm, w1.ok o.eb, w2.ok o.ei, hi⟩
theorem s1_wk (h : S1 K k s1 ds ρb ρi (.nx ds' ρb' ρi')) {ρb2 ρi2 : Rho} (w1 : Wk ρb' ρb2) (w2 : Wk ρi' ρi2) (hi : ∀ d, some d ∈ ρi2 → Imm d) : S1 K k s1 ds ρb ρi (.nx ds' ρb2 ρi2) := fun B H σ D o q => h B H σ D o fun σ' H' o' => q σ' H' (o'.wk w1 w2 hi)
theorem s1_for {wi : TI} {g : TG} {es : List Dt} (st : Nat → List Dt × Rho × Rho) (h0 : st 0 = (ds, ρb, ρi)) (hw : WdB K wi k ds ρb ρi es)
    (hs : ∀ i d, es[i]? = some d → ∃ ρb1 ρi1, GdI g d k (st i).2.1 (st i).2.2 ρb1 ρi1 ∧ S1 K k s1 (st i).1 ρb1 ρi1 (.nx (st (i + 1)).1 (st (i + 1)).2.1 (st (i + 1)).2.2)) :
    S1 K k (tFor wi g s1) ds ρb ρi (.nx (st es.length).1 (st es.length).2.1 (st es.length).2.2) := fun B H σ D o q => hw B H σ o _ fun J H1 e1 ok => by
  refine ⟨fun i m σ2 H2 => m = es.length - i ∧ i ≤ es.length ∧ Own K B H2 k (st i).1 (st i).2.1 (st i).2.2 σ2, ⟨_, rfl, Nat.zero_le _, by rw [h0]; exact o.mono e1⟩, ?_⟩
  rintro i m σ2 H2 ⟨rfl, hi, o2⟩
  by_cases hlt : i < es.length
  · right
    have hd : es[i]? = some es[i] := List.getElem?_eq_getElem hlt
    obtain ⟨go, yl⟩ := (ok i H2 o2.ex).1 _ hd
    refine ⟨go, fun σ' H' => Own K B H' k (st (i + 1)).1 (st (i + 1)).2.1 (st (i + 1)).2.2 σ', fun σ' H' o' => ⟨_, by omega, rfl, hlt, o'⟩, fun x H3 y => ?_⟩
    obtain ⟨e3, px⟩ := yl x H3 y
    obtain ⟨ρb1, ρi1, hg, hb⟩ := hs i _ hd
    exact hg K _ x B H3 σ2 px (o2.mono e3) _ fun σ3 o3 => hb B H3 σ3 _ o3 fun σ' H' o' => o'
  · left
    have ei : i = es.length := by omega
    subst ei
    exact ⟨(ok _ H2 o2.ex).2 rfl, q σ2 H2 o2⟩
end
end Sl
namespace Sl
open PySem PySem.Spec PyProof.Rows L2 StX RZ
open Evl (Ex ex_l ex_t ex_rd sq_of st_of sz_of sz_lt fresh_back)
local macro_rules | `(tactic| walk_at "sd") => `(tactic| first | assumption | omega | decide | (constructor <;> assumption) | (constructor <;> omega))
section
variable {P : Program} {w : World} {K : PySem.W.Frag} {mg : Str → Option Value} {base : Heap}

/-! ClassRow.size_at -/
def R_ClassRow_size_at (K : PySem.W.Frag) : List Dt → Dt → Prop := fun ds d => ∃ r : Row, ∃ z : Int, ds = [dRow K r, dI z] ∧ d = dI (r.at z)
abbrev N_ClassRow_size_at : List Str := ["self", "zoom", "at"]
theorem sc_ClassRow_size_at : FnScope N_ClassRow_size_at ["self", "zoom"] (defScope s_ClassRow_size_at) := ⟨rfl, rfl, rfl, by decide +kernel, rfl, by decide +kernel, by decide +kernel⟩
theorem fn_ClassRow_size_at (T : Tx w K mg) : Mt0 P w K mg base 1 "ClassRow" "size_at" ["self", "zoom"] (spP (R_ClassRow_size_at K)) := by
  obtain ⟨fd, F⟩ := T.f_ClassRow_size_at
  have nd := sc_ClassRow_size_at.nd
  refine mk_mt T.me_ClassRow_size_at (fn_pure F sc_ClassRow_size_at (by rintro _ _ ⟨r, z, rfl, rfl⟩; rfl) (fun cdv A outer s H E hr => ?_)) (F.bindsN fun _ _ _ _ _ _ us hl => match us, hl with | [_, _], _ => rfl)
  have hu := hu_of hr
  have hu65 := hu65 hr
  refine ⟨_, (pss_cons (ps_set (i := 2) nd rfl (Or.inl rfl) (pe_op op_sub (pv 1) (pe_fldK K (pv 0)))) (pss_one (ps_ret (pe_ifExp (pt_chain op_le op_lt pe_int (pv 2) (pe_bi (crK_len K) T.b_len (by decide +kernel) (pa_cons (pe_fldK K (pv 0)) pa_nil)) rfl) (pe_ix (ixK_tup K) (pe_fldK K (pv 0)) (pv 2) (fun _ _ => rfl)) pe_int)))), ?_⟩
  rintro _ _ ⟨r, z, rfl, rfl⟩
  refine sd_seq (sd_set (ed_sub ed_var (ed_fld ed_var (fd_Row_own_first T)))) (sd_ret (ed_if (td_test (ed_chain ed_c ed_var (ed_cb (eda_cons (ed_fld ed_var (fd_Row_own_sizes T)) eda_nil) cd_lenT))) (fun hb => ?_) fun hb => ?_))
  · refine ed_ixT (ed_fld ed_var (fd_Row_own_sizes T)) ed_var ?_
    simp only [List.length_map, Bool.and_eq_true, decide_eq_true_eq] at hb
    unfold Row.at
    rw [if_pos hb]
    have hl : (z - r.first).toNat < r.sizes.length := by omega
    refine atI_in hb.1 ?_
    rw [List.getElem?_map, List.getElem?_eq_getElem hl, List.getD_eq_getElem?_getD, List.getElem?_eq_getElem hl]
    rfl
  · refine ed_is ed_c ?_
    simp only [List.length_map, Bool.and_eq_false_iff, decide_eq_false_iff_not] at hb
    unfold Row.at
    rw [if_neg (by omega)]

/-! View.is_there -/
def R_View_is_there (K : PySem.W.Frag) : List Dt → Dt → Prop := fun ds d => ∃ S : Sty, ∃ z : Int, ∃ i : Int, (S.Ok ∧ S.In i) ∧ ds = [dVw K S z, dI i] ∧ d = dB (decide (0 < sz S z i))
abbrev N_View_is_there : List Str := ["self", "rank"]
theorem sc_View_is_there : FnScope N_View_is_there ["self", "rank"] (defScope s_View_is_there) := ⟨rfl, rfl, rfl, by decide +kernel, rfl, by decide +kernel, by decide +kernel⟩
theorem fn_View_is_there (T : Tx w K mg) : Mt0 P w K mg base 1 "View" "is_there" ["self", "rank"] (spP (R_View_is_there K)) := by
  obtain ⟨fd, F⟩ := T.f_View_is_there
  have nd := sc_View_is_there.nd
  refine mk_mt T.me_View_is_there (fn_pure F sc_View_is_there (by rintro _ _ ⟨S, z, i, c0, rfl, rfl⟩; rfl) (fun cdv A outer s H E hr => ?_)) (F.bindsN fun _ _ _ _ _ _ us hl => match us, hl with | [_, _], _ => rfl)
  have hu := hu_of hr
  have hu65 := hu65 hr
  refine ⟨_, (pss_one (ps_ret (pe_cmpR op_gt (pe_ix (ixK_tup K) (pe_fldK K (pv 0)) (pv 1) (fun _ _ => rfl)) pe_int (nomark _)))), ?_⟩
  rintro _ _ ⟨S, z, i, c0, rfl, rfl⟩
  exact sd_ret (ed_gt (ed_ixT (ed_fld ed_var (fd_View_own_sizes T)) ed_var (at_szs c0.2)) ed_c)

/-! View.half_height -/
def R_View_half_height (K : PySem.W.Frag) : List Dt → Dt → Prop := fun ds d => ∃ S : Sty, ∃ z : Int, ∃ i : Int, (S.Ok ∧ S.In i) ∧ ds = [dVw K S z, dI i] ∧ d = dI (hh S z i)
abbrev N_View_half_height : List Str := ["self", "rank"]
theorem sc_View_half_height : FnScope N_View_half_height ["self", "rank"] (defScope s_View_half_height) := ⟨rfl, rfl, rfl, by decide +kernel, rfl, by decide +kernel, by decide +kernel⟩
theorem fn_View_half_height (T : Tx w K mg) : Mt0 P w K mg base 1 "View" "half_height" ["self", "rank"] (spP (R_View_half_height K)) := by
  obtain ⟨fd, F⟩ := T.f_View_half_height
  have nd := sc_View_half_height.nd
  refine mk_mt T.me_View_half_height (fn_pure F sc_View_half_height (by rintro _ _ ⟨S, z, i, c0, rfl, rfl⟩; rfl) (fun cdv A outer s H E hr => ?_)) (F.bindsN fun _ _ _ _ _ _ us hl => match us, hl with | [_, _], _ => rfl)
  have hu := hu_of hr
  have hu65 := hu65 hr
  refine ⟨_, (pss_one (ps_ret (pe_op op_mul (pe_ix (ixK_tup K) (pe_fldK K (pv 0)) (pv 1) (fun _ _ => rfl)) (pe_fldK K (pv 0))))), ?_⟩
  rintro _ _ ⟨S, z, i, c0, rfl, rfl⟩
  exact sd_ret (ed_mul (ed_ixT (ed_fld ed_var (fd_View_own_sizes T)) ed_var (at_szs c0.2)) (ed_fld ed_var (fd_View_own_pixel T)) (cmul_sz c0.1 c0.2))

/-! View.half_width -/
def R_View_half_width (K : PySem.W.Frag) : List Dt → Dt → Prop := fun ds d => ∃ S : Sty, ∃ z : Int, ∃ i : Int, ∃ l : Int, (S.Ok ∧ S.In i) ∧ (0 ≤ l ∧ l ≤ 100) ∧ ds = [dVw K S z, dI i, dI l] ∧ d = dI (hw S z i l)
abbrev N_View_half_width : List Str := ["self", "rank", "letters"]
theorem sc_View_half_width : FnScope N_View_half_width ["self", "rank", "letters"] (defScope s_View_half_width) := ⟨rfl, rfl, rfl, by decide +kernel, rfl, by decide +kernel, by decide +kernel⟩
theorem fn_View_half_width (T : Tx w K mg) : Mt0 P w K mg base 2 "View" "half_width" ["self", "rank", "letters"] (spP (R_View_half_width K)) := by
  obtain ⟨fd, F⟩ := T.f_View_half_width
  have nd := sc_View_half_width.nd
  refine mk_mt T.me_View_half_width (fn_pure F sc_View_half_width (by rintro _ _ ⟨S, z, i, l, c0, c1, rfl, rfl⟩; rfl) (fun cdv A outer s H E hr => ?_)) (F.bindsN fun _ _ _ _ _ _ us hl => match us, hl with | [_, _, _], _ => rfl)
  have hu := hu_of hr
  have hu65 := hu65 hr
  refine ⟨_, (pss_one (ps_ret (pe_op op_mul (pv 2) (pe_methF (fn_View_half_height T) T.cl_View hr (pv 0) (pa_cons (pv 1) pa_nil))))), ?_⟩
  rintro _ _ ⟨S, z, i, l, c0, c1, rfl, rfl⟩
  exact sd_ret (ed_mul ed_var (ed_meth ed_var (md_View T) (eda_cons ed_var eda_nil) ⟨_, _, _, c0, rfl, rfl⟩) (cmul_s c1))

/-! View.greatest -/
def R_View_greatest (K : PySem.W.Frag) : List Dt → Dt → Prop := fun ds d => ∃ S : Sty, ∃ z : Int, ∃ i : Int, (S.Ok ∧ S.In i) ∧ ds = [dVw K S z, dI i] ∧ d = dI (gr S z i)
abbrev N_View_greatest : List Str := ["self", "rank"]
theorem sc_View_greatest : FnScope N_View_greatest ["self", "rank"] (defScope s_View_greatest) := ⟨rfl, rfl, rfl, by decide +kernel, rfl, by decide +kernel, by decide +kernel⟩
theorem fn_View_greatest (T : Tx w K mg) : Mt0 P w K mg base 3 "View" "greatest" ["self", "rank"] (spP (R_View_greatest K)) := by
  obtain ⟨fd, F⟩ := T.f_View_greatest
  have nd := sc_View_greatest.nd
  refine mk_mt T.me_View_greatest (fn_pure F sc_View_greatest (by rintro _ _ ⟨S, z, i, c0, rfl, rfl⟩; rfl) (fun cdv A outer s H E hr => ?_)) (F.bindsN fun _ _ _ _ _ _ us hl => match us, hl with | [_, _], _ => rfl)
  have hu := hu_of hr
  have hu65 := hu65 hr
  refine ⟨_, (pss_one (ps_ret (pe_methF (fn_View_half_width T) T.cl_View hr (pv 0) (pa_cons (pv 1) (pa_cons (pe_ix (ixK_tup K) (pe_fldK K (pe_ix (ixK_tup K) (pe_fldK K (pe_fldK K (pv 0))) (pv 1) (fun _ _ => rfl))) pe_int (fun _ _ => rfl)) pa_nil))))), ?_⟩
  rintro _ _ ⟨S, z, i, c0, rfl, rfl⟩
  exact sd_ret (ed_meth ed_var (md_View T) (eda_cons ed_var (eda_cons (ed_ixT (ed_fld (ed_ixT (ed_fld (ed_fld ed_var (fd_View_own_style T)) (fd_Style_own_rows T)) ed_var (at_rows c0.2)) (fd_Row_own_letters T)) ed_c rfl) eda_nil)) ⟨_, _, _, _, c0, (most_bd c0.1 c0.2), rfl, rfl⟩)

/-! View.broadest -/
def R_View_broadest (K : PySem.W.Frag) : List Dt → Dt → Prop := fun ds d => ∃ S : Sty, ∃ z : Int, ∃ i : Int, ∃ j : Int, (S.Ok ∧ S.In i) ∧ (S.In j) ∧ ds = [dVw K S z, dI i, dI j] ∧ d = dI (br S z i j)
abbrev N_View_broadest : List Str := ["self", "one", "other"]
theorem sc_View_broadest : FnScope N_View_broadest ["self", "one", "other"] (defScope s_View_broadest) := ⟨rfl, rfl, rfl, by decide +kernel, rfl, by decide +kernel, by decide +kernel⟩
theorem fn_View_broadest (T : Tx w K mg) : Mt0 P w K mg base 4 "View" "broadest" ["self", "one", "other"] (spP (R_View_broadest K)) := by
  obtain ⟨fd, F⟩ := T.f_View_broadest
  have nd := sc_View_broadest.nd
  refine mk_mt T.me_View_broadest (fn_pure F sc_View_broadest (by rintro _ _ ⟨S, z, i, j, c0, c1, rfl, rfl⟩; rfl) (fun cdv A outer s H E hr => ?_)) (F.bindsN fun _ _ _ _ _ _ us hl => match us, hl with | [_, _, _], _ => rfl)
  have hu := hu_of hr
  have hu65 := hu65 hr
  refine ⟨_, (pss_one (ps_ret (pe_op op_add (pe_methF (fn_View_greatest T) T.cl_View hr (pv 0) (pa_cons (pv 1) pa_nil)) (pe_methF (fn_View_greatest T) T.cl_View hr (pv 0) (pa_cons (pv 2) pa_nil))))), ?_⟩
  rintro _ _ ⟨S, z, i, j, c0, c1, rfl, rfl⟩
  exact sd_ret (ed_add (ed_meth ed_var (md_View T) (eda_cons ed_var eda_nil) ⟨_, _, _, c0, rfl, rfl⟩) (ed_meth ed_var (md_View T) (eda_cons ed_var eda_nil) ⟨_, _, _, ⟨c0.1, c1⟩, rfl, rfl⟩))

/-! rank_pair -/
def R_rank_pair (K : PySem.W.Frag) : List Dt → Dt → Prop := fun ds d => ∃ i : Int, ∃ j : Int, ds = [dI i, dI j] ∧ d = nTupI (pairI (rp i j))
abbrev N_rank_pair : List Str := ["one", "other"]
theorem sc_rank_pair : FnScope N_rank_pair ["one", "other"] (defScope s_rank_pair) := ⟨rfl, rfl, rfl, by decide +kernel, rfl, by decide +kernel, by decide +kernel⟩
theorem fn_rank_pair (T : Tx w K mg) : Fn0 P w K mg base 1 "rank_pair" ["one", "other"] (spP (R_rank_pair K)) := by
  obtain ⟨fd, F⟩ := T.f_rank_pair
  have nd := sc_rank_pair.nd
  refine mk_fn T.g_rank_pair F.kp (fn_pure F sc_rank_pair (by rintro _ _ ⟨i, j, rfl, rfl⟩; rfl) (fun cdv A outer s H E hr => ?_)) (F.bindsN fun _ _ _ _ _ _ us hl => match us, hl with | [_, _], _ => rfl)
  have hu := hu_of hr
  have hu65 := hu65 hr
  refine ⟨_, (pss_one (ps_ret (pe_ifExp (pt_cmpR op_le (pv 0) (pv 1) (nomark _)) (pe_tup (pa_cons (pv 0) (pa_cons (pv 1) pa_nil))) (pe_tup (pa_cons (pv 1) (pa_cons (pv 0) pa_nil)))))), ?_⟩
  rintro _ _ ⟨i, j, rfl, rfl⟩
  refine sd_ret (ed_if (td_test (ed_le ed_var ed_var)) (fun hb => ?_) fun hb => ?_)
  · refine ed_is (ed_tupN (eda_cons ed_var (eda_cons ed_var eda_nil)) (by simp)) ?_
    unfold rp
    rw [if_pos (of_decide_eq_true hb)]
    rfl
  · refine ed_is (ed_tupN (eda_cons ed_var (eda_cons ed_var eda_nil)) (by simp)) ?_
    unfold rp
    rw [if_neg (of_decide_eq_false hb)]
    rfl

/-! Style.do_compete -/
def R_Style_do_compete (K : PySem.W.Frag) : List Dt → Dt → Prop := fun ds d => ∃ S : Sty, ∃ i : Int, ∃ j : Int, (S.Ok) ∧ ds = [dSty K S, dI i, dI j] ∧ d = dB (S.compete i j)
abbrev N_Style_do_compete : List Str := ["self", "one", "other"]
theorem sc_Style_do_compete : FnScope N_Style_do_compete ["self", "one", "other"] (defScope s_Style_do_compete) := ⟨rfl, rfl, rfl, by decide +kernel, rfl, by decide +kernel, by decide +kernel⟩
theorem fn_Style_do_compete (T : Tx w K mg) : Mt0 P w K mg base 2 "Style" "do_compete" ["self", "one", "other"] (spP (R_Style_do_compete K)) := by
  obtain ⟨fd, F⟩ := T.f_Style_do_compete
  have nd := sc_Style_do_compete.nd
  refine mk_mt T.me_Style_do_compete (fn_pure F sc_Style_do_compete (by rintro _ _ ⟨S, i, j, c0, rfl, rfl⟩; rfl) (fun cdv A outer s H E hr => ?_)) (F.bindsN fun _ _ _ _ _ _ us hl => match us, hl with | [_, _, _], _ => rfl)
  have hu := hu_of hr
  have hu65 := hu65 hr
  refine ⟨_, (pss_one (ps_ret (pe_cmpR (opK_notInTD K hu65) (pe_callF (fn_rank_pair T) hr (pa_cons (pv 1) (pa_cons (pv 2) pa_nil))) (pe_fldK K (pv 0)) (by rfl)))), ?_⟩
  rintro _ _ ⟨S, i, j, c0, rfl, rfl⟩
  exact sd_ret (ed_notinP (ed_call (eda_cons ed_var (eda_cons ed_var eda_nil)) ⟨_, _, rfl, rfl⟩) (ed_fld ed_var (fd_Style_own_beside T)))

/-! Style.distance -/
def R_Style_distance (K : PySem.W.Frag) : List Dt → Dt → Prop := fun ds d => ∃ S : Sty, ∃ i : Int, ∃ j : Int, (S.Ok) ∧ ds = [dSty K S, dI i, dI j] ∧ d = dI (S.dist i j)
abbrev N_Style_distance : List Str := ["self", "one", "other"]
theorem sc_Style_distance : FnScope N_Style_distance ["self", "one", "other"] (defScope s_Style_distance) := ⟨rfl, rfl, rfl, by decide +kernel, rfl, by decide +kernel, by decide +kernel⟩
theorem fn_Style_distance (T : Tx w K mg) : Mt0 P w K mg base 2 "Style" "distance" ["self", "one", "other"] (spP (R_Style_distance K)) := by
  obtain ⟨fd, F⟩ := T.f_Style_distance
  have nd := sc_Style_distance.nd
  refine mk_mt T.me_Style_distance (fn_pure F sc_Style_distance (by rintro _ _ ⟨S, i, j, c0, rfl, rfl⟩; rfl) (fun cdv A outer s H E hr => ?_)) (F.bindsN fun _ _ _ _ _ _ us hl => match us, hl with | [_, _, _], _ => rfl)
  have hu := hu_of hr
  have hu65 := hu65 hr
  refine ⟨_, (pss_one (ps_ret (pe_dget2F hu (pe_fldK K (pv 0)) (pe_callF (fn_rank_pair T) hr (pa_cons (pv 1) (pa_cons (pv 2) pa_nil))) pe_int ⟨rfl, rfl, rfl, rfl⟩))), ?_⟩
  rintro _ _ ⟨S, i, j, c0, rfl, rfl⟩
  exact sd_ret (ed_dgetF (ed_fld ed_var (fd_Style_own_far T)) (ed_call (eda_cons ed_var (eda_cons ed_var eda_nil)) ⟨_, _, rfl, rfl⟩) ed_c)

/-! View.can_overlap -/
def R_View_can_overlap (K : PySem.W.Frag) : List Dt → Dt → Prop := fun ds d => ∃ S : Sty, ∃ z : Int, ∃ i : Int, ∃ j : Int, (S.Ok ∧ S.In i) ∧ (S.In j) ∧ ds = [dVw K S z, dI i, dI j] ∧ d = dB (canOver S z i j)
abbrev N_View_can_overlap : List Str := ["self", "one", "other"]
theorem sc_View_can_overlap : FnScope N_View_can_overlap ["self", "one", "other"] (defScope s_View_can_overlap) := ⟨rfl, rfl, rfl, by decide +kernel, rfl, by decide +kernel, by decide +kernel⟩
theorem fn_View_can_overlap (T : Tx w K mg) : Mt0 P w K mg base 5 "View" "can_overlap" ["self", "one", "other"] (spP (R_View_can_overlap K)) := by
  obtain ⟨fd, F⟩ := T.f_View_can_overlap
  have nd := sc_View_can_overlap.nd
  refine mk_mt T.me_View_can_overlap (fn_pure F sc_View_can_overlap (by rintro _ _ ⟨S, z, i, j, c0, c1, rfl, rfl⟩; rfl) (fun cdv A outer s H E hr => ?_)) (F.bindsN fun _ _ _ _ _ _ us hl => match us, hl with | [_, _, _], _ => rfl)
  have hu := hu_of hr
  have hu65 := hu65 hr
  refine ⟨_, (pss_one (ps_ret (pe_cmpR op_ge (pe_op op_sub (pe_methF (fn_View_broadest T) T.cl_View hr (pv 0) (pa_cons (pv 1) (pa_cons (pv 2) pa_nil))) pe_int) (pe_methF (fn_Style_distance T) T.cl_Style (hr.mono (by decide)) (pe_fldK K (pv 0)) (pa_cons (pv 1) (pa_cons (pv 2) pa_nil))) (nomark _)))), ?_⟩
  rintro _ _ ⟨S, z, i, j, c0, c1, rfl, rfl⟩
  exact sd_ret (ed_ge (ed_sub (ed_meth ed_var (md_View T) (eda_cons ed_var (eda_cons ed_var eda_nil)) ⟨_, _, _, _, c0, c1, rfl, rfl⟩) ed_c) (ed_meth (ed_fld ed_var (fd_View_own_style T)) (md_Style T) (eda_cons ed_var (eda_cons ed_var eda_nil)) ⟨_, _, _, c0.1, rfl, rfl⟩))

/-! View.can_clash -/
def R_View_can_clash (K : PySem.W.Frag) : List Dt → Dt → Prop := fun ds d => ∃ S : Sty, ∃ z : Int, ∃ i : Int, ∃ j : Int, (S.Ok ∧ S.In i) ∧ (S.In j) ∧ ds = [dVw K S z, dI i, dI j] ∧ d = dB (canClash S z i j)
abbrev N_View_can_clash : List Str := ["self", "one", "other"]
theorem sc_View_can_clash : FnScope N_View_can_clash ["self", "one", "other"] (defScope s_View_can_clash) := ⟨rfl, rfl, rfl, by decide +kernel, rfl, by decide +kernel, by decide +kernel⟩
theorem fn_View_can_clash (T : Tx w K mg) : Mt0 P w K mg base 6 "View" "can_clash" ["self", "one", "other"] (spP (R_View_can_clash K)) := by
  obtain ⟨fd, F⟩ := T.f_View_can_clash
  have nd := sc_View_can_clash.nd
  refine mk_mt T.me_View_can_clash (fn_pure F sc_View_can_clash (by rintro _ _ ⟨S, z, i, j, c0, c1, rfl, rfl⟩; rfl) (fun cdv A outer s H E hr => ?_)) (F.bindsN fun _ _ _ _ _ _ us hl => match us, hl with | [_, _, _], _ => rfl)
  have hu := hu_of hr
  have hu65 := hu65 hr
  refine ⟨_, (pss_one (ps_ret (pe_and (pe_methF (fn_Style_do_compete T) T.cl_Style (hr.mono (by decide)) (pe_fldK K (pv 0)) (pa_cons (pv 1) (pa_cons (pv 2) pa_nil))) (pe_one (pe_methF (fn_View_can_overlap T) T.cl_View hr (pv 0) (pa_cons (pv 1) (pa_cons (pv 2) pa_nil))))))), ?_⟩
  rintro _ _ ⟨S, z, i, j, c0, c1, rfl, rfl⟩
  exact sd_ret (ed_andV (ed_meth (ed_fld ed_var (fd_View_own_style T)) (md_Style T) (eda_cons ed_var (eda_cons ed_var eda_nil)) ⟨_, _, _, c0.1, rfl, rfl⟩) fun _ => (ed_meth ed_var (md_View T) (eda_cons ed_var (eda_cons ed_var eda_nil)) ⟨_, _, _, _, c0, c1, rfl, rfl⟩))

end
end Sl
namespace Sl
open PySem PySem.Spec PyProof.Rows L2 StX RZ
open Evl (Ex ex_l ex_t ex_rd sq_of st_of sz_of sz_lt fresh_back)
local macro_rules | `(tactic| walk_at "sd") => `(tactic| first | assumption | omega | decide | (constructor <;> assumption) | (constructor <;> omega))
section
variable {P : Program} {w : World} {K : PySem.W.Frag} {mg : Str → Option Value} {base : Heap}

/-! ### models of what a view tells -/
def shownR (S : Sty) (z : Int) : List Nat := (List.range S.rows.length).filter fun k => decide (0 < sz S z k)
def LabOk (S : Sty) (z : Int) (l : Lab) : Prop := S.In l.rank ∧ 0 < sz S z l.rank ∧ 0 ≤ l.letters ∧ l.letters ≤ 100
def iabs (n : Int) : Int := if n < 0 then -n else n
def overL (S : Sty) (z : Int) (a b : Lab) : Bool := decide (iabs (a.x - b.x) < hw S z a.rank a.letters + hw S z b.rank b.letters) && decide (iabs (a.y - b.y) < hh S z a.rank + hh S z b.rank)
def clashL (S : Sty) (z : Int) (a b : Lab) : Bool := S.compete a.rank b.rank && overL S z a b
def firstOwn (S : Sty) (z : Int) : Option Nat := (shownR S z).find? fun k => canClash S z k k
theorem find_at {α : Type} {p : α → Bool} : ∀ {l : List α} {a : α}, l.find? p = some a → ∃ j : Nat, l[j]? = some a ∧ p a = true ∧ ∀ (i : Nat) b, i < j → l[i]? = some b → p b = false
  | [], _, h => by cases h
  | x :: l, a, h => by
    rw [List.find?_cons] at h
    cases q : p x with
    | true =>
      rw [q] at h
      cases h
      exact ⟨0, rfl, q, fun i b hi => absurd hi (by omega)⟩
    | false =>
      rw [q] at h
      obtain ⟨j, h1, h2, h3⟩ := find_at h
      refine ⟨j + 1, by simpa using h1, h2, fun i b hi hb => ?_⟩
      cases i with
      | zero =>
        cases hb
        exact q
      | succ i => exact h3 i b (by omega) (by simpa using hb)
theorem in_nat {S : Sty} {k : Nat} (h : k < S.rows.length) : S.In (k : Int) := ⟨by omega, by omega⟩
theorem shown_in {S : Sty} {z : Int} {k : Nat} (h : k ∈ shownR S z) : S.In (k : Int) ∧ 0 < sz S z k := by
  obtain ⟨h1, h2⟩ := List.mem_filter.mp h
  exact ⟨in_nat (List.mem_range.mp h1), of_decide_eq_true h2⟩
theorem firstOwn_in {S : Sty} {z : Int} {e : Nat} (h : firstOwn S z = some e) : S.In (e : Int) ∧ 0 < sz S z e ∧ canClash S z e e = true := by
  obtain ⟨j, h1, h2, _⟩ := find_at h
  have := shown_in (List.mem_of_getElem? h1)
  exact ⟨this.1, this.2, h2⟩
theorem valV_rank (v : Str) : ∀ (l : List Row) (n j : Nat), (l.map Row.name).Nodup → (l.map Row.name)[j]? = some v → valV ((l.zipIdx n).map fun p => ((Sum.inr p.1.name : Key), V.int (p.2 : Int))) (Sum.inr v) = some (V.int ((n + j : Nat) : Int))
  | [], _, _, _, h => by simp at h
  | r :: l, n, 0, _, h => by
    cases h
    rw [List.zipIdx_cons, List.map_cons, valV_pos rfl] <;> rfl
  | r :: l, n, j + 1, nd, h => by
    have nd' := List.nodup_cons.mp nd
    have h' : (l.map Row.name)[j]? = some v := by simpa using h
    have ne : ¬ (Sum.inr r.name : Key) = Sum.inr v := fun e => nd'.1 (by
      rw [Sum.inr.inj e]
      exact List.mem_of_getElem? h')
    rw [List.zipIdx_cons, List.map_cons, valV_neg ne, valV_rank v l (n + 1) j nd'.2 h']
    rw [show n + 1 + j = n + (j + 1) by omega]
theorem at_rank {S : Sty} {i : Int} (h : S.Ok) (hi : S.In i) : valV (ranksOf S) (Sum.inr (S.row i).name) = some (V.int i) := by
  have h1 : (S.rows.map Row.name)[i.toNat]? = some (S.row i).name := by rw [List.getElem?_map, hi.get]; rfl
  have := valV_rank _ S.rows 0 _ h.nd h1
  rw [show ((0 + i.toNat : Nat) : Int) = i by have := hi.1; omega] at this
  exact this
theorem forE {α : Type} {f : α → Dt} {l : List α} {i : Nat} {d : Dt} (h : (l.map f)[i]? = some d) : ∃ a, l[i]? = some a ∧ a ∈ l ∧ d = f a := by
  rw [List.getElem?_map] at h
  cases q : l[i]? with
  | none =>
    rw [q] at h
    cases h
  | some a =>
    rw [q] at h
    exact ⟨a, rfl, List.mem_of_getElem? q, (Option.some.inj h).symm⟩
theorem hh_nn {S : Sty} {z i : Int} (h : S.Ok) (hi : S.In i) : 0 ≤ hh S z i := Int.mul_nonneg (sz_bd h hi).1 (Int.pow_nonneg (by omega))
theorem span_sum (n : Nat) (s : Int) : ((List.range n).map fun _ => s).sum = (n : Int) * s := by
  induction n with
  | zero => simp
  | succ n ih => rw [List.range_succ, List.map_append, List.sum_append, ih]; simp [Int.add_mul]
/-! ### texts -/
def lowers : Str := "abcdefghijklmnopqrstuvwxyz"
def figures : Str := "0123456789"
theorem ed_inSign {ρ : Rho} {ta tb : TE} {c : Nat} {s : Str} (ha : Ed ta ρ (dS ⟨#[c]⟩)) (hb : Ed tb ρ (dS s)) : Ed (tOp (fun x y H Q => ∃ (c : Nat) (z : Str), x = .str ⟨#[c]⟩ ∧ y = .str z ∧ Q (.bl (decide (c ∈ z.cps.toList))) H) ta tb) ρ (dB (decide (c ∈ s.cps.toList))) := ed_op ha hb fun H u v p q Q k => ⟨c, s, p, q, k _ H (Ex.refl H) rfl⟩
theorem mem_lowers {c : Nat} : c ∈ lowers.cps.toList ↔ isLow c := by
  have e : lowers.cps.toList = [97, 98, 99, 100, 101, 102, 103, 104, 105, 106, 107, 108, 109, 110, 111, 112, 113, 114, 115, 116, 117, 118, 119, 120, 121, 122] := by decide +kernel
  rw [e]
  unfold isLow
  simp only [List.mem_cons, List.not_mem_nil, or_false]
  omega
theorem mem_figures {c : Nat} : c ∈ figures.cps.toList ↔ 48 ≤ c ∧ c ≤ 57 := by
  have e : figures.cps.toList = [48, 49, 50, 51, 52, 53, 54, 55, 56, 57] := by decide +kernel
  rw [e]
  simp only [List.mem_cons, List.not_mem_nil, or_false]
  omega
theorem all_true_map {α : Type} (l : List α) (p : α → Bool) (h : ∀ a ∈ l, p a = true) : (l.map p).all id = true := by
  rw [List.all_map]
  exact List.all_eq_true.mpr h
theorem len_cps (s : Str) : s.length = s.cps.toList.length := by simp [Str.length]
theorem cps_bd {s : Str} (h : IsName s) : s.length ≤ 12 := h.2.1
/-- if c: return .. -/
theorem sd_ifR0 {t : TT} {ρ : Rho} {a : Bool} {s1 : TS} {d : Dt} (h : Td t ρ a) (ha : a = true) (h1 : Sd s1 ρ (.ret d)) : Sd (tIfS t s1 tNext) ρ (.ret d) := sd_if h (fun _ => h1) fun hb => absurd (ha.symm.trans hb) (by decide)

/-! View.ranks -/
def R_View_ranks (K : PySem.W.Frag) : List Dt → Dt → Prop := fun ds d => ∃ S : Sty, ∃ z : Int, (S.Ok) ∧ ds = [dVw K S z] ∧ d = dLst K ((shownR S z).map fun (k : Nat) => dI (k : Int))
abbrev N_View_ranks : List Str := ["self", "rank"]
theorem sc_View_ranks : FnScope N_View_ranks ["self"] (defScope s_View_ranks) := ⟨rfl, rfl, rfl, by decide +kernel, rfl, by decide +kernel, by decide +kernel⟩
theorem fn_View_ranks (T : Tx w K mg) : Mt0 P w K mg base 2 "View" "ranks" ["self"] (spP (R_View_ranks K)) := by
  obtain ⟨fd, F⟩ := T.f_View_ranks
  have nd := sc_View_ranks.nd
  refine mk_mt T.me_View_ranks (fn_pure F sc_View_ranks (by rintro _ _ ⟨S, z, c0, rfl, rfl⟩; rfl) (fun cdv A outer s H E hr => ?_)) (F.bindsN fun _ _ _ _ _ _ us hl => match us, hl with | [_], _ => rfl)
  have hu := hu_of hr
  have hu65 := hu65 hr
  refine ⟨_, (pss_one (ps_ret (pe_lc (own := [("rank", 1)]) (by rfl) nd (pi_r1 T.b_range (pa_cons (pe_bi (crK_len K) T.b_len (by decide +kernel) (pa_cons (pe_fldK K (pv 0)) pa_nil)) pa_nil)) (blkOk_by (N := N_View_ranks) (sc := defScope s_View_ranks) (by decide +kernel)) (fun _ _ _ _ _ => (pg_name (i := 1) nd rfl (Or.inl rfl))) (fun _ _ _ _ _ => pts_one (pt_val (pe_methF (fn_View_is_there T) T.cl_View hr (pv 0) (pa_cons (pv 1) pa_nil)))) (fun _ _ _ _ _ => (pv 1))))), ?_⟩
  rintro _ _ ⟨S, z, c0, rfl, rfl⟩
  refine sd_ret (ed_lc (List.range S.rows.length) (fun (k : Nat) => dI (k : Int)) (fun k => decide (0 < sz S z k)) (fun (k : Nat) => dI (k : Int)) (wd_r1 (eda_cons (ed_cb (eda_cons (ed_fld ed_var (fd_View_own_sizes T)) eda_nil) cd_lenT) eda_nil) (by simp [szsOf]) (by have := c0.n4; omega)) (by have := c0.n4; simp; omega) (by decide) (fun _ _ _ => imm_V _) fun k hk => ⟨_, gd_name, (td_B (ed_meth ed_var (md_View T) (eda_cons ed_var eda_nil) ⟨_, _, _, ⟨c0, in_nat (List.mem_range.mp hk)⟩, rfl, rfl⟩)), fun _ => ed_var⟩)

/-! View.box -/
def R_View_box (K : PySem.W.Frag) : List Dt → Dt → Prop := fun ds d => ∃ S : Sty, ∃ z : Int, ∃ l : Lab, (S.Ok ∧ LabOk S z l) ∧ ds = [dVw K S z, labD K S l] ∧ d = dTup K [dI (hw S z l.rank l.letters), dI (hh S z l.rank)]
abbrev N_View_box : List Str := ["self", "label", "rank"]
theorem sc_View_box : FnScope N_View_box ["self", "label"] (defScope s_View_box) := ⟨rfl, rfl, rfl, by decide +kernel, rfl, by decide +kernel, by decide +kernel⟩
theorem fn_View_box (T : Tx w K mg) : Mt0 P w K mg base 3 "View" "box" ["self", "label"] (spP (R_View_box K)) := by
  obtain ⟨fd, F⟩ := T.f_View_box
  have nd := sc_View_box.nd
  refine mk_mt T.me_View_box (fn_pure F sc_View_box (by rintro _ _ ⟨S, z, l, c0, rfl, rfl⟩; rfl) (fun cdv A outer s H E hr => ?_)) (F.bindsN fun _ _ _ _ _ _ us hl => match us, hl with | [_, _], _ => rfl)
  have hu := hu_of hr
  have hu65 := hu65 hr
  refine ⟨_, (pss_cons (ps_set (i := 2) nd rfl (Or.inl rfl) (pe_dgetF hu (pe_fldK K (pe_fldK K (pv 0))) (pe_ix (ixK_tup K) (pv 1) pe_int (fun _ _ => rfl)) (fun _ _ => rfl))) (pss_one (ps_ret (pe_ifExp (pt_val (pe_methF (fn_View_is_there T) T.cl_View (hr.mono (by decide)) (pv 0) (pa_cons (pv 2) pa_nil))) (pe_tup (pa_cons (pe_methF (fn_View_half_width T) T.cl_View hr (pv 0) (pa_cons (pv 2) (pa_cons (pe_ix (ixK_tup K) (pv 1) pe_int (fun _ _ => rfl)) pa_nil))) (pa_cons (pe_methF (fn_View_half_height T) T.cl_View (hr.mono (by decide)) (pv 0) (pa_cons (pv 2) pa_nil)) pa_nil))) pe_non)))), ?_⟩
  rintro _ _ ⟨S, z, l, c0, rfl, rfl⟩
  obtain ⟨h, l1, l2, l3, l4⟩ := c0
  refine sd_seq (sd_set (ed_dget (ed_fld (ed_fld ed_var (fd_View_own_style T)) (fd_Style_own_ranks T)) (ed_ixT ed_var ed_c rfl) (at_rank h l1))) (sd_ret (ed_if (td_B (ed_meth ed_var (md_View T) (eda_cons ed_var eda_nil) ⟨_, _, _, ⟨h, l1⟩, rfl, rfl⟩)) (fun _ => (ed_tup (eda_cons (ed_meth ed_var (md_View T) (eda_cons ed_var (eda_cons (ed_ixT ed_var ed_c rfl) eda_nil)) ⟨_, _, _, _, ⟨h, l1⟩, ⟨l3, l4⟩, rfl, rfl⟩) (eda_cons (ed_meth ed_var (md_View T) (eda_cons ed_var eda_nil) ⟨_, _, _, ⟨h, l1⟩, rfl, rfl⟩) eda_nil)) (by simp))) fun hb => ?_))
  exact absurd l2 (of_decide_eq_false hb)

/-! View.do_overlap -/
def R_View_do_overlap (K : PySem.W.Frag) : List Dt → Dt → Prop := fun ds d => ∃ S : Sty, ∃ z : Int, ∃ a : Lab, ∃ b : Lab, (S.Ok ∧ LabOk S z a) ∧ (LabOk S z b) ∧ ds = [dVw K S z, labD K S a, labD K S b] ∧ d = dB (overL S z a b)
abbrev N_View_do_overlap : List Str := ["self", "one", "other", "box", "its"]
theorem sc_View_do_overlap : FnScope N_View_do_overlap ["self", "one", "other"] (defScope s_View_do_overlap) := ⟨rfl, rfl, rfl, by decide +kernel, rfl, by decide +kernel, by decide +kernel⟩
theorem fn_View_do_overlap (T : Tx w K mg) : Mt0 P w K mg base 4 "View" "do_overlap" ["self", "one", "other"] (spP (R_View_do_overlap K)) := by
  obtain ⟨fd, F⟩ := T.f_View_do_overlap
  have nd := sc_View_do_overlap.nd
  refine mk_mt T.me_View_do_overlap (fn_pure F sc_View_do_overlap (by rintro _ _ ⟨S, z, a, b, c0, c1, rfl, rfl⟩; rfl) (fun cdv A outer s H E hr => ?_)) (F.bindsN fun _ _ _ _ _ _ us hl => match us, hl with | [_, _, _], _ => rfl)
  have hu := hu_of hr
  have hu65 := hu65 hr
  refine ⟨_, (pss_cons (ps_par (i := 3) (j := 4) (by rfl) nd rfl rfl (by decide) rfl rfl (pa_cons (pe_methF (fn_View_box T) T.cl_View hr (pv 0) (pa_cons (pv 1) pa_nil)) (pa_cons (pe_methF (fn_View_box T) T.cl_View hr (pv 0) (pa_cons (pv 2) pa_nil)) pa_nil)) (by rfl)) (pss_cons (ps_if (PW.pt (pw_or (pt_cmp (pc_isN (pv 3))) (pw_or1 (pt_cmp (pc_isN (pv 4)))))) (pss_one (ps_ret pe_bl)) pss_nil) (pss_one (ps_ret (pe_and (pe_cmpR op_lt (pe_bi call_abs T.b_abs (by decide +kernel) (pa_cons (pe_op op_sub (pe_ix (ixK_tup K) (pv 1) pe_int (fun _ _ => rfl)) (pe_ix (ixK_tup K) (pv 2) pe_int (fun _ _ => rfl))) pa_nil)) (pe_op op_add (pe_ix (ixK_tup K) (pv 3) (pe_gint T.c_WIDE) (fun _ _ => rfl)) (pe_ix (ixK_tup K) (pv 4) (pe_gint T.c_WIDE) (fun _ _ => rfl))) (nomark _)) (pe_one (pe_cmpR op_lt (pe_bi call_abs T.b_abs (by decide +kernel) (pa_cons (pe_op op_sub (pe_ix (ixK_tup K) (pv 1) pe_int (fun _ _ => rfl)) (pe_ix (ixK_tup K) (pv 2) pe_int (fun _ _ => rfl))) pa_nil)) (pe_op op_add (pe_ix (ixK_tup K) (pv 3) (pe_gint T.c_HIGH) (fun _ _ => rfl)) (pe_ix (ixK_tup K) (pv 4) (pe_gint T.c_HIGH) (fun _ _ => rfl))) (nomark _)))))))), ?_⟩
  rintro _ _ ⟨S, z, a, b, c0, c1, rfl, rfl⟩
  refine sd_seq (sd_par (eda_cons (ed_meth ed_var (md_View T) (eda_cons ed_var eda_nil) ⟨_, _, _, c0, rfl, rfl⟩) (eda_cons (ed_meth ed_var (md_View T) (eda_cons ed_var eda_nil) ⟨_, _, _, ⟨c0.1, c1⟩, rfl, rfl⟩) eda_nil)))
      (sd_ifR (td_or (td_B (ed_isSome ed_var notN_tup)) fun _ => (td_B (ed_isSome ed_var notN_tup))) (fun hb => absurd hb (by decide)) (fun _ =>
      (sd_ret (ed_andV (ed_lt (ed_cb (eda_cons (ed_sub (ed_ixT ed_var ed_c rfl) (ed_ixT ed_var ed_c rfl)) eda_nil) cd_abs) (ed_add (ed_ixT ed_var ed_c rfl) (ed_ixT ed_var ed_c rfl))) fun _ => (ed_lt (ed_cb (eda_cons (ed_sub (ed_ixT ed_var ed_c rfl) (ed_ixT ed_var ed_c rfl)) eda_nil) cd_abs) (ed_add (ed_ixT ed_var ed_c rfl) (ed_ixT ed_var ed_c rfl)))))))

/-! View.do_clash -/
def R_View_do_clash (K : PySem.W.Frag) : List Dt → Dt → Prop := fun ds d => ∃ S : Sty, ∃ z : Int, ∃ a : Lab, ∃ b : Lab, (S.Ok ∧ LabOk S z a) ∧ (LabOk S z b) ∧ ds = [dVw K S z, labD K S a, labD K S b] ∧ d = dB (clashL S z a b)
abbrev N_View_do_clash : List Str := ["self", "one", "other", "ranks", "label"]
theorem sc_View_do_clash : FnScope N_View_do_clash ["self", "one", "other"] (defScope s_View_do_clash) := ⟨rfl, rfl, rfl, by decide +kernel, rfl, by decide +kernel, by decide +kernel⟩
theorem fn_View_do_clash (T : Tx w K mg) : Mt0 P w K mg base 5 "View" "do_clash" ["self", "one", "other"] (spP (R_View_do_clash K)) := by
  obtain ⟨fd, F⟩ := T.f_View_do_clash
  have nd := sc_View_do_clash.nd
  refine mk_mt T.me_View_do_clash (fn_pure F sc_View_do_clash (by rintro _ _ ⟨S, z, a, b, c0, c1, rfl, rfl⟩; rfl) (fun cdv A outer s H E hr => ?_)) (F.bindsN fun _ _ _ _ _ _ us hl => match us, hl with | [_, _, _], _ => rfl)
  have hu := hu_of hr
  have hu65 := hu65 hr
  refine ⟨_, (pss_cons (ps_setLc (i := 3) (own := [("label", 4)]) rfl nd rfl rfl (sw_true rfl rfl rfl (by decide +kernel)) (pi_tupK K (pe_tup (pa_cons (pv 1) (pa_cons (pv 2) pa_nil)))) (blkOk_by (N := N_View_do_clash) (sc := defScope s_View_do_clash) (by decide +kernel)) (fun _ _ _ _ _ => (pg_name (i := 4) nd rfl (Or.inl rfl))) (fun _ _ _ _ _ => pts_nil) (fun _ _ _ _ _ => (pe_dgetF hu (pe_fldK K (pe_fldK K (pv 0))) (pe_ix (ixK_tup K) (pv 4) pe_int (fun _ _ => rfl)) (fun _ _ => rfl)))) (pss_one (ps_ret (pe_and (pe_methF (fn_Style_do_compete T) T.cl_Style (hr.mono (by decide)) (pe_fldK K (pv 0)) (pa_cons (pe_ix (ixK_list K) (pv 3) pe_int (fun _ _ => rfl)) (pa_cons (pe_ix (ixK_list K) (pv 3) pe_int (fun _ _ => rfl)) pa_nil))) (pe_one (pe_methF (fn_View_do_overlap T) T.cl_View hr (pv 0) (pa_cons (pv 1) (pa_cons (pv 2) pa_nil)))))))), ?_⟩
  rintro _ _ ⟨S, z, a, b, c0, c1, rfl, rfl⟩
  have hab : ∀ l ∈ [a, b], S.In l.rank := fun l hl => by
    simp only [List.mem_cons, List.not_mem_nil, or_false] at hl
    rcases hl with rfl | rfl
    · exact c0.2.1
    · exact c1.1
  refine sd_seq (sd_set (ed_lc0 (K := K) [a, b] (labD K S) (fun l => dI l.rank) (wd_tup (ed_tup (eda_cons ed_var (eda_cons ed_var eda_nil)) (by simp))) (by simp) (by decide) (fun _ _ => imm_V _) fun l hl => ⟨_, gd_name, (ed_dget (ed_fld (ed_fld ed_var (fd_View_own_style T)) (fd_Style_own_ranks T)) (ed_ixT ed_var ed_c rfl) (at_rank c0.1 (hab l hl)))⟩))
      (sd_ret (ed_andV (ed_meth (ed_fld ed_var (fd_View_own_style T)) (md_Style T) (eda_cons (ed_ixL (K := K) ed_var ed_c rfl) (eda_cons (ed_ixL (K := K) ed_var ed_c rfl) eda_nil)) ⟨_, _, _, c0.1, rfl, rfl⟩) fun _ => (ed_meth ed_var (md_View T) (eda_cons ed_var (eda_cons ed_var eda_nil)) ⟨_, _, _, _, c0, c1, rfl, rfl⟩)))

/-! endless -/
def R_endless (K : PySem.W.Frag) : List Dt → Dt → Prop := fun ds d => ∃ S : Sty, ∃ z : Int, ∃ e : Nat, (S.Ok) ∧ (firstOwn S z = some e) ∧ ds = [dVw K S z] ∧ d = dI (e : Int)
abbrev N_endless : List Str := ["view", "rank"]
theorem sc_endless : FnScope N_endless ["view"] (defScope s_endless) := ⟨rfl, rfl, rfl, by decide +kernel, rfl, by decide +kernel, by decide +kernel⟩
theorem fn_endless (T : Tx w K mg) : Fn0 P w K mg base 7 "endless" ["view"] (spP (R_endless K)) := by
  obtain ⟨fd, F⟩ := T.f_endless
  have nd := sc_endless.nd
  refine mk_fn T.g_endless F.kp (fn_pure F sc_endless (by rintro _ _ ⟨S, z, e, c0, c1, rfl, rfl⟩; rfl) (fun cdv A outer s H E hr => ?_)) (F.bindsN fun _ _ _ _ _ _ us hl => match us, hl with | [_], _ => rfl)
  have hu := hu_of hr
  have hu65 := hu65 hr
  refine ⟨_, (pss_cons (ps_for PassesOwn.never rfl (pi_listK K (pe_methF0 (fn_View_ranks T) T.cl_View (hr.mono (by decide)) (pv 0))) (pg_name (i := 1) nd rfl (Or.inl rfl)) (pss_one (ps_if (pt_val (pe_methF (fn_View_can_clash T) T.cl_View hr (pv 0) (pa_cons (pv 1) (pa_cons (pv 1) pa_nil)))) (pss_one (ps_ret (pv 1))) pss_nil))) (pss_one (ps_ret pe_non))), ?_⟩
  rintro _ _ ⟨S, z, e, c0, c1, rfl, rfl⟩
  obtain ⟨j, h1, h2, h3⟩ := find_at c1
  have hin : ∀ k ∈ shownR S z, S.In (k : Int) := fun k hk => (shown_in hk).1
  refine sd_seqR (sd_forR (wd_list (ed_meth ed_var (md_View T) eda_nil ⟨_, _, c0, rfl, rfl⟩)) (fun _ => [some (dVw K S z), none]) (Wk.refl _) (j := j) (fun i d hi hd => ?_) (by rw [List.getElem?_map, h1]; rfl) ⟨_, _, gd_name, sd_ifR0 (td_B (ed_meth ed_var (md_View T) (eda_cons ed_var (eda_cons ed_var eda_nil)) ⟨_, _, _, _, ⟨c0, hin _ (List.mem_of_getElem? h1)⟩, hin _ (List.mem_of_getElem? h1), rfl, rfl⟩)) h2 (sd_ret ed_var)⟩)
  obtain ⟨k, hk, hm, rfl⟩ := forE hd
  exact ⟨_, _, gd_name, sd_wk (sd_if (td_B (ed_meth ed_var (md_View T) (eda_cons ed_var (eda_cons ed_var eda_nil)) ⟨_, _, _, _, ⟨c0, hin _ hm⟩, hin _ hm, rfl, rfl⟩)) (fun hb => absurd ((h3 i k hi hk).symm.trans hb) (by decide)) (fun hb => sd_next)) (wk_c (wk_n wk_0))⟩

/-! stride_of -/
def R_stride_of (K : PySem.W.Frag) : List Dt → Dt → Prop := fun ds d => ∃ S : Sty, ∃ z : Int, ∃ i : Int, ∃ j : Int, (S.Ok ∧ S.In i) ∧ (S.In j) ∧ ds = [dVw K S z, dI i, dI j] ∧ d = dI (br S z i j - 1)
abbrev N_stride_of : List Str := ["view", "rank", "other"]
theorem sc_stride_of : FnScope N_stride_of ["view", "rank", "other"] (defScope s_stride_of) := ⟨rfl, rfl, rfl, by decide +kernel, rfl, by decide +kernel, by decide +kernel⟩
theorem fn_stride_of (T : Tx w K mg) : Fn0 P w K mg base 5 "stride_of" ["view", "rank", "other"] (spP (R_stride_of K)) := by
  obtain ⟨fd, F⟩ := T.f_stride_of
  have nd := sc_stride_of.nd
  refine mk_fn T.g_stride_of F.kp (fn_pure F sc_stride_of (by rintro _ _ ⟨S, z, i, j, c0, c1, rfl, rfl⟩; rfl) (fun cdv A outer s H E hr => ?_)) (F.bindsN fun _ _ _ _ _ _ us hl => match us, hl with | [_, _, _], _ => rfl)
  have hu := hu_of hr
  have hu65 := hu65 hr
  refine ⟨_, (pss_one (ps_ret (pe_op op_sub (pe_methF (fn_View_broadest T) T.cl_View hr (pv 0) (pa_cons (pv 1) (pa_cons (pv 2) pa_nil))) pe_int))), ?_⟩
  rintro _ _ ⟨S, z, i, j, c0, c1, rfl, rfl⟩
  exact sd_ret (ed_sub (ed_meth ed_var (md_View T) (eda_cons ed_var (eda_cons ed_var eda_nil)) ⟨_, _, _, _, c0, c1, rfl, rfl⟩) ed_c)

/-! span -/
def R_span (K : PySem.W.Frag) : List Dt → Dt → Prop := fun ds d => ∃ S : Sty, ∃ z : Int, ∃ i : Int, ∃ n : Nat, (S.Ok ∧ S.In i) ∧ (n + 1 ≤ 30) ∧ ds = [dVw K S z, dTup K (List.replicate (n + 1) (dI i))] ∧ d = dI ((n : Int) * (br S z i i - 1))
abbrev N_span : List Str := ["view", "row", "rank", "other"]
theorem sc_span : FnScope N_span ["view", "row"] (defScope s_span) := ⟨rfl, rfl, rfl, by decide +kernel, rfl, by decide +kernel, by decide +kernel⟩
theorem fn_span (T : Tx w K mg) : Fn0 P w K mg base 6 "span" ["view", "row"] (spP (R_span K)) := by
  obtain ⟨fd, F⟩ := T.f_span
  have nd := sc_span.nd
  refine mk_fn T.g_span F.kp (fn_pure F sc_span (by rintro _ _ ⟨S, z, i, n, c0, c1, rfl, rfl⟩; rfl) (fun cdv A outer s H E hr => ?_)) (F.bindsN fun _ _ _ _ _ _ us hl => match us, hl with | [_, _], _ => rfl)
  have hu := hu_of hr
  have hu65 := hu65 hr
  refine ⟨_, (pss_one (ps_ret (pe_bi (crK_sum K) T.b_sum (by decide +kernel) (pa_cons (pe_lc (own := [("rank", 2), ("other", 3)]) (by rfl) nd (pi_zipK K T.b_zip (pa_cons (pv 1) (pa_cons (pe_slice (slK_tupA K) (pv 1) (po_some pe_int) po_none) pa_nil))) (blkOk_by (N := N_span) (sc := defScope s_span) (by decide +kernel)) (fun _ _ _ _ _ => (pg_tupK K (n := 2) (pgs_cons (pg_name (i := 2) nd rfl (Or.inl rfl)) (pgs_cons (pg_name (i := 3) nd rfl (Or.inl rfl)) pgs_nil)))) (fun _ _ _ _ _ => pts_nil) (fun _ _ _ _ _ => (pe_callF (fn_stride_of T) hr (pa_cons (pv 0) (pa_cons (pv 2) (pa_cons (pv 3) pa_nil)))))) pa_nil)))), ?_⟩
  rintro _ _ ⟨S, z, i, n, c0, c1, rfl, rfl⟩
  have e : zipD K (List.replicate (n + 1) (dI i)) (cutD (List.replicate (n + 1) (dI i)) (some 1) none) = (List.range n).map fun _ => dTup K [dI i, dI i] := by
    have e1 : cutD (List.replicate (n + 1) (dI i)) (some 1) none = List.replicate n (dI i) := by
      unfold cutD
      rw [List.length_replicate, show (1 : Int) = ((1 : Nat) : Int) from rfl, HT.sIx_nat, HT.sIx_none, show min 1 (n + 1) = 1 by omega, List.drop_replicate, List.take_replicate, show min (n + 1 - 1) (n + 1 - 1) = n by omega]
    rw [e1]
    unfold zipD
    rw [List.zip_replicate, show min (n + 1) n = n by omega, List.map_replicate, List.map_const', List.length_range]
  refine sd_ret (ed_is (ed_cb (eda_cons (ed_is (ed_lc0 (K := K) (List.range n) (fun _ => dTup K [dI i, dI i]) (fun _ => dI (br S z i i - 1)) (wd_is (wd_zipT (eda_cons ed_var (eda_cons (ed_slT ed_var (edo_some ed_c) edo_none) eda_nil))) e) (by simp; omega) (by decide) (fun _ _ => imm_V _) fun _ _ => ⟨_, gd_tup (gds_cons gd_name (gds_cons gd_name gds_nil)), ed_call (eda_cons ed_var (eda_cons ed_var (eda_cons ed_var eda_nil))) ⟨_, _, _, _, c0, c0.2, rfl, rfl⟩⟩) (by rw [List.map_map] <;> rfl)) eda_nil) (cd_sum (ns := (List.range n).map fun _ => br S z i i - 1))) (by rw [span_sum]))

/-! is_integer -/
def R_is_integer (K : PySem.W.Frag) : List Dt → Dt → Prop := fun ds d => ∃ i : Int, ds = [dI i] ∧ d = dB true
abbrev N_is_integer : List Str := ["value"]
theorem sc_is_integer : FnScope N_is_integer ["value"] (defScope s_is_integer) := ⟨rfl, rfl, rfl, by decide +kernel, rfl, by decide +kernel, by decide +kernel⟩
theorem fn_is_integer (T : Tx w K mg) : Fn0 P w K mg base 1 "is_integer" ["value"] (spP (R_is_integer K)) := by
  obtain ⟨fd, F⟩ := T.f_is_integer
  have nd := sc_is_integer.nd
  refine mk_fn T.g_is_integer F.kp (fn_pure F sc_is_integer (by rintro _ _ ⟨i, rfl, rfl⟩; rfl) (fun cdv A outer s H E hr => ?_)) (F.bindsN fun _ _ _ _ _ _ us hl => match us, hl with | [_], _ => rfl)
  have hu := hu_of hr
  have hu65 := hu65 hr
  refine ⟨_, (pss_one (ps_ret (pe_and (pe_bi (crK_isi K) T.b_isinstance (by decide +kernel) (pa_cons (pv 0) (pa_cons (pe_gty (n := "int") T.b_int (by decide +kernel)) pa_nil))) (pe_one (pe_not (pe_bi (crK_isi K) T.b_isinstance (by decide +kernel) (pa_cons (pv 0) (pa_cons (pe_gty (n := "bool") T.b_bool (by decide +kernel)) pa_nil)))))))), ?_⟩
  rintro _ _ ⟨i, rfl, rfl⟩
  exact sd_ret (ed_andV (ed_cb (eda_cons ed_var (eda_cons ed_c eda_nil)) (cd_isi tyd_I (by decide +kernel) (a := true))) fun _ => ed_notV (ed_cb (eda_cons ed_var (eda_cons ed_c eda_nil)) (cd_isi tyd_I (by decide +kernel) (a := false))))

/-! is_between -/
def R_is_between (K : PySem.W.Frag) : List Dt → Dt → Prop := fun ds d => ∃ i : Int, ∃ lo : Int, ∃ hi : Int, ds = [dI i, dI lo, dI hi] ∧ d = dB (decide (lo ≤ i) && decide (i ≤ hi))
abbrev N_is_between : List Str := ["value", "low", "high"]
theorem sc_is_between : FnScope N_is_between ["value", "low", "high"] (defScope s_is_between) := ⟨rfl, rfl, rfl, by decide +kernel, rfl, by decide +kernel, by decide +kernel⟩
theorem fn_is_between (T : Tx w K mg) : Fn0 P w K mg base 2 "is_between" ["value", "low", "high"] (spP (R_is_between K)) := by
  obtain ⟨fd, F⟩ := T.f_is_between
  have nd := sc_is_between.nd
  refine mk_fn T.g_is_between F.kp (fn_pure F sc_is_between (by rintro _ _ ⟨i, lo, hi, rfl, rfl⟩; rfl) (fun cdv A outer s H E hr => ?_)) (F.bindsN fun _ _ _ _ _ _ us hl => match us, hl with | [_, _, _], _ => rfl)
  have hu := hu_of hr
  have hu65 := hu65 hr
  refine ⟨_, (pss_one (ps_ret (pe_and (pe_callF (fn_is_integer T) hr (pa_cons (pv 0) pa_nil)) (pe_one (pe_chain op_le op_le (pv 1) (pv 0) (pv 2) rfl))))), ?_⟩
  rintro _ _ ⟨i, lo, hi, rfl, rfl⟩
  exact sd_ret (ed_andV (a := true) (ed_call (eda_cons ed_var eda_nil) ⟨_, rfl, rfl⟩) fun _ => (ed_chain ed_var ed_var ed_var))

/-! is_tuple -/
def R_is_tuple (K : PySem.W.Frag) : List Dt → Dt → Prop := fun ds d => ∃ us : List Dt, ∃ lo : Int, ∃ hi : Int, ds = [dTup K us, dI lo, dI hi] ∧ d = dB (decide (lo ≤ (us.length : Int)) && decide ((us.length : Int) ≤ hi))
abbrev N_is_tuple : List Str := ["value", "least", "most"]
theorem sc_is_tuple : FnScope N_is_tuple ["value", "least", "most"] (defScope s_is_tuple) := ⟨rfl, rfl, rfl, by decide +kernel, rfl, by decide +kernel, by decide +kernel⟩
theorem fn_is_tuple (T : Tx w K mg) : Fn0 P w K mg base 1 "is_tuple" ["value", "least", "most"] (spP (R_is_tuple K)) := by
  obtain ⟨fd, F⟩ := T.f_is_tuple
  have nd := sc_is_tuple.nd
  refine mk_fn T.g_is_tuple F.kp (fn_pure F sc_is_tuple (by rintro _ _ ⟨us, lo, hi, rfl, rfl⟩; rfl) (fun cdv A outer s H E hr => ?_)) (F.bindsN fun _ _ _ _ _ _ us hl => match us, hl with | [_, _, _], _ => rfl)
  have hu := hu_of hr
  have hu65 := hu65 hr
  refine ⟨_, (pss_one (ps_ret (pe_and (pe_bi (crK_isi K) T.b_isinstance (by decide +kernel) (pa_cons (pv 0) (pa_cons (pe_gty (n := "tuple") T.b_tuple (by decide +kernel)) pa_nil))) (pe_one (pe_chain op_le op_le (pv 1) (pe_bi (crK_len K) T.b_len (by decide +kernel) (pa_cons (pv 0) pa_nil)) (pv 2) rfl))))), ?_⟩
  rintro _ _ ⟨us, lo, hi, rfl, rfl⟩
  exact sd_ret (ed_andV (a := true) (ed_cb (eda_cons ed_var (eda_cons ed_c eda_nil)) (cd_isi tyd_T (by decide +kernel))) fun _ => (ed_chain ed_var (ed_cb (eda_cons ed_var eda_nil) cd_lenT) ed_var))

/-! is_word -/
def R_is_word (K : PySem.W.Frag) : List Dt → Dt → Prop := fun ds d => ∃ a : Str, ∃ b : Str, ds = [dS a, dS b] ∧ d = dB (decide (a = b))
abbrev N_is_word : List Str := ["value", "word"]
theorem sc_is_word : FnScope N_is_word ["value", "word"] (defScope s_is_word) := ⟨rfl, rfl, rfl, by decide +kernel, rfl, by decide +kernel, by decide +kernel⟩
theorem fn_is_word (T : Tx w K mg) : Fn0 P w K mg base 1 "is_word" ["value", "word"] (spP (R_is_word K)) := by
  obtain ⟨fd, F⟩ := T.f_is_word
  have nd := sc_is_word.nd
  refine mk_fn T.g_is_word F.kp (fn_pure F sc_is_word (by rintro _ _ ⟨a, b, rfl, rfl⟩; rfl) (fun cdv A outer s H E hr => ?_)) (F.bindsN fun _ _ _ _ _ _ us hl => match us, hl with | [_, _], _ => rfl)
  have hu := hu_of hr
  have hu65 := hu65 hr
  refine ⟨_, (pss_one (ps_ret (pe_and (pe_bi (crK_isi K) T.b_isinstance (by decide +kernel) (pa_cons (pv 0) (pa_cons (pe_gty (n := "str") T.b_str (by decide +kernel)) pa_nil))) (pe_one (pe_cmpR op_eq (pv 0) (pv 1) (nomark _)))))), ?_⟩
  rintro _ _ ⟨a, b, rfl, rfl⟩
  exact sd_ret (ed_andV (a := true) (ed_cb (eda_cons ed_var (eda_cons ed_c eda_nil)) (cd_isi tyd_S (by decide +kernel))) fun _ => (ed_eqS ed_var ed_var))

/-! is_name -/
def R_is_name (K : PySem.W.Frag) : List Dt → Dt → Prop := fun ds d => ∃ s : Str, (IsName s) ∧ ds = [dS s] ∧ d = dB true
abbrev N_is_name : List Str := ["value", "sign"]
theorem sc_is_name : FnScope N_is_name ["value"] (defScope s_is_name) := ⟨rfl, rfl, rfl, by decide +kernel, rfl, by decide +kernel, by decide +kernel⟩
theorem fn_is_name (T : Tx w K mg) : Fn0 P w K mg base 1 "is_name" ["value"] (spP (R_is_name K)) := by
  obtain ⟨fd, F⟩ := T.f_is_name
  have nd := sc_is_name.nd
  refine mk_fn T.g_is_name F.kp (fn_pure F sc_is_name (by rintro _ _ ⟨s, c0, rfl, rfl⟩; rfl) (fun cdv A outer s H E hr => ?_)) (F.bindsN fun _ _ _ _ _ _ us hl => match us, hl with | [_], _ => rfl)
  have hu := hu_of hr
  have hu65 := hu65 hr
  refine ⟨_, (pss_cons (ps_if (PW.pt (pw_or (pt_not (pt_val (pe_bi (crK_isi K) T.b_isinstance (by decide +kernel) (pa_cons (pv 0) (pa_cons (pe_gty (n := "str") T.b_str (by decide +kernel)) pa_nil))))) (pw_or1 (pt_not (pt_chain op_le op_le pe_int (pe_bi call_len_str T.b_len (by decide +kernel) (pa_cons (pv 0) pa_nil)) (pe_gint T.c_MOST_LETTERS) rfl))))) (pss_one (ps_ret pe_bl)) pss_nil) (pss_one (ps_ret (pe_bi (crK_all K) T.b_all (by decide +kernel) (pa_cons (pe_lc (own := [("sign", 1)]) (by rfl) nd (pi_str (pv 0)) (blkOk_by (N := N_is_name) (sc := defScope s_is_name) (by decide +kernel)) (fun _ _ _ _ _ => (pg_name (i := 1) nd rfl (Or.inl rfl))) (fun _ _ _ _ _ => pts_nil) (fun _ _ _ _ _ => (pe_cmpR op_in_sign (pv 1) (pe_gstr T.c_LETTERS_words) rfl))) pa_nil))))), ?_⟩
  rintro _ _ ⟨s, c0, rfl, rfl⟩
  have hl := c0.2.1
  refine sd_ifR (td_or (td_not (td_B (ed_cb (eda_cons ed_var (eda_cons ed_c eda_nil)) (cd_isi tyd_S (by decide +kernel) (a := true))))) fun _ => (td_not (td_test (ed_chain ed_c (ed_cb (eda_cons ed_var eda_nil) (cd_lenS (by omega))) ed_c)))) (fun hb => ?_) (fun hb => ?_)
  · have h1 := c0.1
    rw [show decide ((1 : Int) ≤ (s.length : Int)) = true from decide_eq_true (by omega), show decide ((s.length : Int) ≤ 12) = true from decide_eq_true (by omega)] at hb
    exact absurd hb (by decide)
  · refine sd_ret (ed_is (ed_cb (eda_cons (ed_is (ed_lc0 (K := K) s.cps.toList (fun c => dS ⟨#[c]⟩) (fun c => dB (decide (c ∈ lowers.cps.toList))) (wd_str ed_var) (by rw [← len_cps]; omega) (by decide) (fun _ _ => imm_V _) fun c hc => ⟨_, gd_name, (ed_inSign ed_var ed_c)⟩) (by rw [show (fun c => dB (decide (c ∈ lowers.cps.toList))) = (fun n => dB n) ∘ fun c => decide (c ∈ lowers.cps.toList) from rfl, ← List.map_map] <;> rfl)) eda_nil) (cd_all (K := K))) ?_)
    rw [all_true_map _ _ fun c hc => decide_eq_true (mem_lowers.mpr (c0.2.2 c hc))]

end
end Sl
/-! Sl7: a heap without one address; instances being made: View, ClassRow. -/
namespace Sl
open PySem PySem.Spec PyProof.Rows L2 StX RZ
open Evl (Ex ex_l ex_t ex_rd sq_of st_of sz_of sz_lt fresh_back)
def hide (a : Addr) (H : Hp) : Hp := fun b => if b = a then none else H b
theorem hide_ex {a : Addr} {H : Hp} : Ex (hide a H) H := fun b o h => by
  unfold hide at h
  split at h
  · cases h
  · exact h
theorem hide_mono {a : Addr} {H H' : Hp} (e : Ex H H') : Ex (hide a H) (hide a H') := fun b o h => by
  unfold hide at h ⊢
  split at h
  · cases h
  · rename_i hb
    rw [if_neg hb]
    exact e b o h
theorem hide_at {a : Addr} {H : Hp} : hide a H a = none := if_pos rfl
theorem hide_ne {a b : Addr} {H : Hp} (h : b ≠ a) : hide a H b = H b := if_neg h
theorem hide_upd {a : Addr} {H : Hp} {o : HO} : hide a (upd H a o) = hide a H := by
  funext b
  unfold hide
  split
  · rfl
  · rename_i h
    exact upd_ne h
theorem hide_self {a : Addr} {H : Hp} (h : H a = none) : hide a H = H := by
  funext b
  unfold hide
  split
  · rename_i e
    rw [e, h]
  · rfl
theorem hide_none {a b : Addr} {H : Hp} (h : H b = none) : hide a H b = none := by
  unfold hide
  split
  · rfl
  · exact h
theorem ne_none {a b : Addr} {H : Hp} {o : HO} (h : H a = some o) (h' : H b = none) : b ≠ a := fun e => by
  rw [e, h] at h'
  cases h'
/-- data that no object of the kind W is a part of -/
def HidW (W : HO → Prop) (d : Dt) : Prop := ∀ (H : Hp) (a : Addr) (o : HO) (v : V), H a = some o → W o → d.P H v → d.P (hide a H) v
section
variable {K : PySem.W.Frag} {W : HO → Prop}
theorem hid_V {x : V} : HidW W (dV x) := fun _ _ _ _ _ _ h => h
def NoTup (W : HO → Prop) : Prop := ∀ o, W o → (∀ xs, o ≠ .tup xs) ∧ ∀ x u, o ≠ .frz x u
theorem hid_sqT (n : NoTup W) {H : Hp} {a b : Addr} {o : HO} {xs : List V} (h : H a = some o) (hw : W o) (q : SqT K H b xs) : SqT K (hide a H) b xs := by
  rcases q with (q | ⟨u, q⟩) | q
  · have : b ≠ a := fun e => by
      rw [e, h] at q
      exact (n o hw).1 _ (Option.some.inj q)
    exact .inl (.inl (by rw [hide_ne this]; exact q))
  · have : b ≠ a := fun e => by
      rw [e, h] at q
      exact (n o hw).2 _ _ (Option.some.inj q)
    exact .inl (.inr ⟨u, by rw [hide_ne this]; exact q⟩)
  · exact .inr q
theorem All2.hid {H : Hp} {a : Addr} {o : HO} (h : H a = some o) (hw : W o) : ∀ {ds : List Dt} {vs : List V}, (∀ d ∈ ds, HidW W d) → All2 H ds vs → All2 (hide a H) ds vs
  | [], [], _, _ => True.intro
  | d :: ds, _ :: _, i, q => ⟨i d List.mem_cons_self _ _ _ _ h hw q.1, All2.hid h hw (fun x hx => i x (List.mem_cons_of_mem _ hx)) q.2⟩
  | [], _ :: _, _, q => q.elim
  | _ :: _, [], _, q => q.elim
theorem hid_tup (n : NoTup W) {ds : List Dt} (hd : ∀ d ∈ ds, HidW W d) : HidW W (dTup K ds) := fun H a o v h hw ⟨p, vs, e, b, c⟩ => ⟨p, vs, e, hid_sqT n h hw b, c.hid h hw hd⟩
theorem hid_tupI (n : NoTup W) {ns : List Int} : HidW W (tupI K ns) := hid_tup n fun d hd => by
  obtain ⟨m, _, rfl⟩ := List.mem_map.mp hd
  exact hid_V
/-- the attributes of an instance that is no row -/
def NoRow (W : HO → Prop) : Prop := ∀ C dx fs, W (.ins C dx fs) → fs.lookup ("own_first" : Str) = none
theorem hid_row (n : NoTup W) (m : NoRow W) {r : Row} : HidW W (dRow K r) := fun H a o v h hw ⟨b, dx, l, s, e, h1, h2, h3⟩ => by
  have : b ≠ a := fun z => by
    rw [z, h] at h1
    have := Option.some.inj h1
    subst this
    have z1 := m _ _ _ hw
    have z2 : (rowF r l s).lookup ("own_first" : Str) = some (.int r.first) := by kernel_rfl
    rw [z2] at z1
    cases z1
  exact ⟨b, dx, l, s, e, by rw [hide_ne this]; exact h1, hid_sqT n h hw h2, hid_sqT n h hw h3⟩
/-! ### an instance that is being made -/
theorem L0 : ([] : List (Str × V)).length < 1 := by decide
theorem putF_len {f : Str} {v : V} : ∀ fs : List (Str × V), (putF f v fs).length ≤ fs.length + 1
  | [] => Nat.le_refl _
  | (g, x) :: r => by
    unfold putF
    split
    · simp
    · simpa using putF_len r
theorem pl {f : Str} {v : V} {fs : List (Str × V)} {n : Nat} (h : fs.length < n) : (putF f v fs).length < n + 1 := by
  have := putF_len (f := f) (v := v) fs
  omega
structure Slf (C : Addr) (H : Hp) (a dx : Addr) (fs : List (Str × V)) (ρ : Rho) (σ : L2.St) : Prop where
  self : σ[0]? = some (some (.ref a))
  at_ : H a = some (.ins C dx fs)
  env : EnvOk (hide a H) ρ σ
theorem fld_w {C : Addr} {H : Hp} {a dx : Addr} {fs : List (Str × V)} {ρ : Rho} {σ : L2.St} {te : TE} {f : Str} {d : Dt} {D : Ends} (s : Slf C H a dx fs ρ σ) {m : Nat} (c : Cls K C) (n : NoAttr K C f) (hl : fs.length < m) (h : Ed te ρ d)
    (hd : ∀ H', H' a = some (.ins C dx fs) → ∀ v, d.P H' v → d.P (hide a H') v)
    (k : ∀ v H', Slf C H' a dx (putF f v fs) ρ σ → Ex (hide a H) (hide a H') → d.P (hide a H') v → D.nx σ H') (hm : m ≤ 1000 := by decide) : sFld K (tVar 0) te f D σ H := by
  refine h H σ (s.env.mono hide_ex) _ fun v H1 e1 p1 => ⟨.ref a, s.self, a, C, dx, fs, rfl, e1 _ _ s.at_, c, n, Nat.lt_of_lt_of_le hl hm, ?_⟩
  have hv := hd H1 (e1 _ _ s.at_) v p1
  have e2 : Ex (hide a H) (hide a H1) := hide_mono e1
  exact k v _ ⟨s.self, upd_same, by rw [hide_upd]; exact s.env.mono e2⟩ (by rw [hide_upd]; exact e2) (by rw [hide_upd]; exact hv)
theorem ps_fldK {X : Cx} {o value : Expr} {f : Str} {pos pos' : Pos} {ta tv : TE} (K : PySem.W.Frag) (ha : PE X o ta) (hv : PE X value tv) (hX : X.K = K := by rfl) (hs : swapsWith value (some (.Attribute o f pos')) pos.line X.env = pure false := by rfl) : PS X (.Assign [.Attribute o f pos'] value pos) (sFld K ta tv f) := hX ▸ ps_fld ha hv hs
theorem Slf.put {C : Addr} {H : Hp} {a dx : Addr} {fs gs : List (Str × V)} {ρ : Rho} {σ : L2.St} (s : Slf C H a dx fs ρ σ) : Slf C (upd H a (.ins C dx gs)) a dx gs ρ σ := ⟨s.self, upd_same, by rw [hide_upd]; exact s.env⟩
theorem fld_v {C : Addr} {H : Hp} {a dx : Addr} {fs : List (Str × V)} {ρ : Rho} {σ : L2.St} {f : Str} {D : Ends} {v : V} {i : Nat} (s : Slf C H a dx fs ρ σ) {m : Nat} (c : Cls K C) (n : NoAttr K C f) (hl : fs.length < m) (hv : σ[i]? = some (some v))
    (k : D.nx σ (upd H a (.ins C dx (putF f v fs)))) (hm : m ≤ 1000 := by decide) : sFld K (tVar 0) (tVar i) f D σ H := ⟨v, hv, .ref a, s.self, a, C, dx, fs, rfl, s.at_, c, n, Nat.lt_of_lt_of_le hl hm, k⟩
/-- a class by its name, its __init__ -/
structure Ini (P : Program) (w : World) (K : PySem.W.Frag) (mg : Str → Option Value) (base : Heap) (k : Nat) (C : Str) (ps : List Str) (dvs : List V) (sp : Sp) : Prop where
  ex : ∃ f fd ds, mg C = some (.ref (He.ga K C)) ∧ Mk K (He.ga K C) f ∧ FnOk P w K mg base CX0 k f fd ps sp ∧ Binds K fd ps ds ∧ Vals dvs ds
theorem mk_in {P : Program} {w : World} {mg : Str → Option Value} {base : Heap} {k : Nat} {C : Str} {ps : List Str} {dvs : List V} {sp : Sp} {f : Addr} {fd : FuncData} {ds : List Value} (h : mg C = some (.ref (He.ga K C))) (a : Mk K (He.ga K C) f) (c : FnOk P w K mg base CX0 k f fd ps sp) (d : Binds K fd ps ds) (e : Vals dvs ds) : Ini P w K mg base k C ps dvs sp := ⟨⟨f, fd, ds, h, a, c, d, e⟩⟩
theorem pe_makeF {X : Cx} {x : Str} {p pos : Pos} {e : Expr} {es : List Expr} {t : TA} {sp : Sp} {k : Nat} {ps : List Str} {dvs : List V} {P : Program} {w : World} {mg : Str → Option Value} {base : Heap} {A : Around} (F : Ini P w K mg base k x ps dvs sp) (hr : Room (k + 1) A) (ha : PA X (e :: es) t) (hX : At X P w K mg base A := by exact ⟨rfl, rfl, rfl, rfl, rfl, rfl⟩) (hg : Gl X x := by rfl) (hd : (x == ("__debug__" : Str)) = false := by decide)
    (he : starEach (e :: es) X.env = (false, eval e X.env) :: starEach es X.env := by rfl) (hpl : (backTo pos (starEach es X.env)).any (·.1) = false := by rfl) : PE X (.Call (.Name x p) (e :: es) [] pos) (tMake (He.ga K x) sp dvs E0 t) := by
  obtain ⟨rfl, rfl, rfl, rfl, rfl, rfl⟩ := hX
  obtain ⟨f, fd, ds, h, a, c, d, v⟩ := F.ex
  exact pe_make a c hr hg h d v pass0 ha hd he hpl
theorem pe_makeF0 {X : Cx} {x : Str} {p pos : Pos} {sp : Sp} {k : Nat} {ps : List Str} {dvs : List V} {P : Program} {w : World} {mg : Str → Option Value} {base : Heap} {A : Around} (F : Ini P w K mg base k x ps dvs sp) (hr : Room (k + 1) A) (hX : At X P w K mg base A := by exact ⟨rfl, rfl, rfl, rfl, rfl, rfl⟩) (hg : Gl X x := by rfl) (hd : (x == ("__debug__" : Str)) = false := by decide) : PE X (.Call (.Name x p) [] [] pos) (tMake (He.ga K x) sp dvs E0 tNil) := by
  obtain ⟨rfl, rfl, rfl, rfl, rfl, rfl⟩ := hX
  obtain ⟨f, fd, ds, h, a, c, d, v⟩ := F.ex
  exact pe_make0 a c hr hg h d v pass0 hd
def selfW (C dx : Addr) (fs : List (Str × V)) : HO → Prop := fun o => o = .ins C dx fs
theorem selfW_nt {C dx : Addr} {fs : List (Str × V)} : NoTup (selfW C dx fs) := fun o h => by
  have h' : o = .ins C dx fs := h
  subst h'
  exact ⟨(fun _ e => nomatch e), (fun _ _ e => nomatch e)⟩
theorem selfW_nr {C dx : Addr} {fs : List (Str × V)} (h : fs.lookup ("own_first" : Str) = none) : NoRow (selfW C dx fs) := fun C' dx' fs' e => by
  have e' : HO.ins C' dx' fs' = .ins C dx fs := e
  cases e'
  exact h
theorem hid_self {C dx : Addr} {fs : List (Str × V)} {d : Dt} {a : Addr} (h : HidW (selfW C dx fs) d) : ∀ H', H' a = some (.ins C dx fs) → ∀ v, d.P H' v → d.P (hide a H') v := fun H' e v p => h H' a _ v e rfl p
end
section
variable {P : Program} {w : World} {K : PySem.W.Frag} {mg : Str → Option Value} {base : Heap}
local macro_rules | `(tactic| walk_at "sd") => `(tactic| first | assumption | omega | decide | (constructor <;> assumption) | (constructor <;> omega))
/-! ### View.__init__ -/
def spView (K : PySem.W.Frag) : Sp := fun vs H Q _ => ∃ B a dx S z v, vs = [.ref a, v, .int z, .non] ∧ S.Ok ∧ (0 ≤ z ∧ z ≤ S.last) ∧ B a = none ∧ H = upd B a (.ins (He.ga K "View") dx []) ∧ (dSty K S).P B v ∧
  ∀ H', Ex B H' → (dVw K S z).P H' (.ref a) → Q .non H'
abbrev N_View_init : List Str := ["self", "style", "zoom", "sizes", "row"]
theorem sc_View_init : FnScope N_View_init ["self", "style", "zoom", "sizes"] (defScope s_View_init) := ⟨rfl, rfl, rfl, by decide +kernel, rfl, by decide +kernel, by decide +kernel⟩
theorem fn_View_init (T : Tx w K mg) : Ini P w K mg base 2 "View" ["self", "style", "zoom", "sizes"] [V.non] (spView K) := by
  obtain ⟨fd, F⟩ := T.f_View_init
  have nd := sc_View_init.nd
  obtain ⟨ds, hds, hb⟩ := F.binds1 (ps := ["self", "style", "zoom", "sizes"]) 3 0 (by simp) rfl fun T kV doc pm an cdv ct us its h1 h2 => match us, its, h1, h2 with
    | [_, _, _], [_], _, _ => ⟨_, rfl, rfl⟩
  refine mk_in T.g_View T.mk_View (F.ok sc_View_init (fun vs H Q E ⟨B, a, dx, S, z, v, h, _⟩ => by rw [h]; rfl) (fun cdv A outer s H vs Q E hr hsp => ?_)) hb hds
  have hu := hu_of hr
  have hu65 := hu65 hr
  refine ⟨_, (pss_cons (ps_fldK K (pv 0) (pv 1)) (pss_cons (ps_fldK K (pv 0) (pv 2)) (pss_cons (ps_fldK K (pv 0) (pe_op op_shl pe_int (pe_op op_sub (pe_fldK K (pv 1)) (pv 2)))) (pss_one (ps_fldK K (pv 0) (pe_ifExp (pt_cmp (pc_isN (pv 3))) (pe_bt (crK_tuple K) T.b_tuple (by decide +kernel) (pa_cons (pe_lc (own := [("row", 4)]) (by rfl) nd (pi_tupK K (pe_fldK K (pv 1))) (blkOk_by (N := N_View_init) (sc := defScope s_View_init) (by decide +kernel)) (fun _ _ _ _ _ => (pg_name (i := 4) nd rfl (Or.inl rfl))) (fun _ _ _ _ _ => pts_nil) (fun _ _ _ _ _ => (pe_methF (fn_ClassRow_size_at T) T.cl_ClassRow hr (pv 4) (pa_cons (pv 2) pa_nil)))) pa_nil)) (pv 3))))))), ?_⟩
  obtain ⟨B, a, dx, S, z, v, rfl, hok, hz, hB, rfl, hS, q⟩ := hsp
  obtain ⟨st, dx', rs, rk, bs, fr, rfl, hst⟩ := id hS
  have s0 : Slf (He.ga K "View") (upd B a (.ins (He.ga K "View") dx [])) a dx [] [none, some (dSty K S), some (dI z), some dN, none] (L2.start N_View_init [.ref a, .ref st, .int z, .non]) := ⟨rfl, upd_same, by
    rw [hide_upd, hide_self hB]
    exact ⟨(fun _ h => nomatch h), (fun d h => by cases h; exact ⟨_, rfl, hS⟩), (fun d h => by cases h; exact ⟨_, rfl, rfl⟩), (fun d h => by cases h; exact ⟨_, rfl, rfl⟩), (fun _ h => nomatch h), True.intro⟩⟩
  have e0 : Ex B (hide a (upd B a (.ins (He.ga K "View") dx []))) := by
    rw [hide_upd, hide_self hB]
    exact Ex.refl _
  refine fld_v s0 T.cl_View T.na_View_own_style L0 (v := .ref st) rfl ?_
  refine fld_v s0.put T.cl_View T.na_View_own_zoom (pl L0) (v := .int z) rfl ?_
  refine fld_w s0.put.put T.cl_View T.na_View_own_pixel (pl (pl L0)) (ed_shl ed_c (ed_sub (ed_fld ed_var (fd_Style_own_last T)) ed_var) ⟨by omega, by have := hok.z4; omega, by decide⟩) (hid_self hid_V) fun v1 H1 s1 e1 p1 => ?_
  refine fld_w s1 T.cl_View T.na_View_own_sizes (pl (pl (pl L0))) (d := tupI K (szsOf S z)) (ed_if (td_B (ed_isNone ed_var)) (fun _ => ed_is (ed_cb (eda_cons (ed_lc0 (K := K) S.rows (dRow K) (fun r => dI (r.at z)) (wd_tup (ed_fld ed_var (fd_Style_own_rows T))) (by have := hok.n4; omega) (by decide) (fun _ _ => imm_V _) fun r hr => ⟨_, gd_name, (ed_meth ed_var (md_Row T) (eda_cons ed_var eda_nil) ⟨_, _, rfl, rfl⟩)⟩) eda_nil) cd_tupL) (by unfold tupI szsOf; rw [List.map_map]; rfl)) fun h => absurd h (by decide)) (hid_self (hid_tupI selfW_nt)) fun v2 H2 s2 e2 p2 => ?_
  obtain ⟨sz, us, rfl, hsz, hall⟩ := p2
  have hv1 : v1 = .int (1 * 2 ^ (S.last - z).toNat) := p1
  rw [Int.one_mul] at hv1
  subst hv1
  have hus := ints_all2 hall
  subst hus
  rw [hide_upd, hide_upd, hide_upd, hide_self hB] at e1
  have e3 : Ex B H2 := (e1.trans e2).trans hide_ex
  have hf : putF "own_sizes" (V.ref sz) (putF "own_pixel" (V.int (2 ^ (S.last - z).toNat)) (putF "own_zoom" (V.int z) (putF "own_style" (V.ref st) []))) = vwF S z st sz := by kernel_rfl
  have h4 := s2.at_
  rw [hf] at h4
  exact q H2 e3 ⟨a, dx, st, sz, rfl, h4, Dt.mono _ e3 hS, ex_t hide_ex hsz⟩
end
section
variable {P : Program} {w : World} {K : PySem.W.Frag} {mg : Str → Option Value} {base : Heap} {ρ : Rho} {ta tb tc td : TE} {E : XK}
theorem ed_view {S : Sty} {z : Int} (h1 : Ed ta ρ (dSty K S)) (h2 : Ed tb ρ (dI z)) (hok : S.Ok) (hz : 0 ≤ z ∧ z ≤ S.last) : Ed (tMake (He.ga K "View") (spView K) [V.non] E (tCons ta (tCons tb tNil))) ρ (dVw K S z) := fun H σ e Q q =>
  eda_cons h1 (eda_cons h2 eda_nil) H σ e _ fun vs H1 e1 p1 x dx hx hdx ne => by
    obtain ⟨v, u, rfl, pv, pu⟩ := all2_2 p1
    have pu' : u = .int z := pu
    subst pu'
    have hBx : upd H1 dx (.own x) x = none := by rw [upd_ne (Ne.symm ne)]; exact hx
    exact ⟨upd H1 dx (.own x), x, dx, S, z, v, rfl, hok, hz, hBx, rfl, Dt.mono _ (Ex.new hdx) pv, fun H' e' p' => ⟨rfl, q _ H' ((e1.trans (Ex.new hdx)).trans e') p'⟩⟩
/-! ### ClassRow.__init__ -/
def spRow (K : PySem.W.Frag) : Sp := fun vs H Q _ => ∃ B a dx r l s, vs = [.ref a, .str (Row.name r), .int r.first, .ref l, .ref s] ∧ B a = none ∧ H = upd B a (.ins (He.ga K "ClassRow") dx []) ∧ SqT K B l [.int r.least, .int r.most] ∧ SqT K B s (r.sizes.map V.int) ∧
  ∀ H', Ex B H' → (dRow K r).P H' (.ref a) → Q .non H'
abbrev N_ClassRow_init : List Str := ["self", "name", "first", "letters", "sizes"]
theorem sc_ClassRow_init : FnScope N_ClassRow_init ["self", "name", "first", "letters", "sizes"] (defScope s_ClassRow_init) := ⟨rfl, rfl, rfl, by decide +kernel, rfl, by decide +kernel, by decide +kernel⟩
theorem fn_ClassRow_init (T : Tx w K mg) : Ini P w K mg base 1 "ClassRow" ["self", "name", "first", "letters", "sizes"] [] (spRow K) := by
  obtain ⟨fd, F⟩ := T.f_ClassRow_init
  have nd := sc_ClassRow_init.nd
  refine mk_in T.g_ClassRow T.mk_ClassRow (F.ok sc_ClassRow_init (fun vs H Q E ⟨B, a, dx, r, l, s, h, _⟩ => by rw [h]; rfl) (fun cdv A outer s H vs Q E hr hsp => ?_)) (F.bindsN fun _ _ _ _ _ _ us hl => match us, hl with | [_, _, _, _, _], _ => rfl) .nil
  refine ⟨_, (pss_cons (ps_fldK K (pv 0) (pv 1)) (pss_cons (ps_fldK K (pv 0) (pv 2)) (pss_cons (ps_fldK K (pv 0) (pv 3)) (pss_one (ps_fldK K (pv 0) (pv 4)))))), ?_⟩
  obtain ⟨B, a, dx, r, l, s, rfl, hB, rfl, h1, h2, q⟩ := hsp
  have s0 : Slf (He.ga K "ClassRow") (upd B a (.ins (He.ga K "ClassRow") dx [])) a dx [] [none, none, none, none, none] (L2.start N_ClassRow_init [.ref a, .str (Row.name r), .int r.first, .ref l, .ref s]) := ⟨rfl, upd_same, (fun _ h => nomatch h), (fun _ h => nomatch h), (fun _ h => nomatch h), (fun _ h => nomatch h), (fun _ h => nomatch h), True.intro⟩
  refine fld_v s0 T.cl_ClassRow T.na_ClassRow_own_name L0 (v := .str r.name) rfl ?_
  refine fld_v s0.put T.cl_ClassRow T.na_ClassRow_own_first (pl L0) (v := .int r.first) rfl ?_
  refine fld_v s0.put.put T.cl_ClassRow T.na_ClassRow_own_letters (pl (pl L0)) (v := .ref l) rfl ?_
  refine fld_v s0.put.put.put T.cl_ClassRow T.na_ClassRow_own_sizes (pl (pl (pl L0))) (v := .ref s) rfl ?_
  have hB' : ∀ o1 o2 o3 o4 o5 : HO, Ex B (upd (upd (upd (upd (upd B a o1) a o2) a o3) a o4) a o5) := fun _ _ _ _ _ => ((((Ex.new hB).mut hB).mut hB).mut hB).mut hB
  have hf : putF "own_sizes" (V.ref s) (putF "own_letters" (V.ref l) (putF "own_first" (V.int r.first) (putF "own_name" (V.str r.name) []))) = rowF r l s := by kernel_rfl
  rw [hf]
  have hx := hB' (.ins (He.ga K "ClassRow") dx []) (.ins (He.ga K "ClassRow") dx (putF "own_name" (V.str r.name) [])) (.ins (He.ga K "ClassRow") dx (putF "own_first" (V.int r.first) (putF "own_name" (V.str r.name) []))) (.ins (He.ga K "ClassRow") dx (putF "own_letters" (V.ref l) (putF "own_first" (V.int r.first) (putF "own_name" (V.str r.name) [])))) (.ins (He.ga K "ClassRow") dx (rowF r l s))
  exact q _ hx ⟨a, dx, l, s, rfl, upd_same, ex_t hx h1, ex_t hx h2⟩
theorem all2_4 {H : Hp} {d e f g : Dt} {vs : List V} (h : All2 H [d, e, f, g] vs) : ∃ v w u y, vs = [v, w, u, y] ∧ d.P H v ∧ e.P H w ∧ f.P H u ∧ g.P H y := match vs, h with
  | v :: vs, h => by
    obtain ⟨w, u, y, rfl, h2, h3, h4⟩ := all2_3 h.2
    exact ⟨v, w, u, y, rfl, h.1, h2, h3, h4⟩
  | [], h => h.elim
theorem ed_row {r : Row} (h1 : Ed ta ρ (dS r.name)) (h2 : Ed tb ρ (dI r.first)) (h3 : Ed tc ρ (dTup K [dI r.least, dI r.most])) (h4 : Ed td ρ (tupI K r.sizes)) : Ed (tMake (He.ga K "ClassRow") (spRow K) [] E (tCons ta (tCons tb (tCons tc (tCons td tNil))))) ρ (dRow K r) := fun H σ e Q q =>
  eda_cons h1 (eda_cons h2 (eda_cons h3 (eda_cons h4 eda_nil))) H σ e _ fun vs H1 e1 p1 x dx hx hdx ne => by
    obtain ⟨v1, v2, v3, v4, rfl, p1, p2, ⟨l, us, p3, p3', p3''⟩, ⟨s, ws, p4, p4', p4''⟩⟩ := all2_4 p1
    have e1' : v1 = .str r.name := p1
    have e2' : v2 = .int r.first := p2
    have hw := ints_all2 p4''
    obtain ⟨y1, y2, hy, hy1, hy2⟩ := all2_2 p3''
    have hy1' : y1 = .int r.least := hy1
    have hy2' : y2 = .int r.most := hy2
    subst e1' e2' p3 p4 hw hy1' hy2' hy
    have hBx : upd H1 dx (.own x) x = none := by rw [upd_ne (Ne.symm ne)]; exact hx
    have ed : Ex H1 (upd H1 dx (.own x)) := Ex.new hdx
    exact ⟨upd H1 dx (.own x), x, dx, r, l, s, rfl, hBx, rfl, ex_t ed p3', ex_t ed p4', fun H' e' p' => ⟨rfl, q _ H' ((e1.trans ed).trans e') p'⟩⟩
end
end Sl
namespace Sl
open PySem PySem.Spec PyProof.Rows L2 StX RZ
open Evl (Ex ex_l ex_t ex_rd sq_of st_of sz_of sz_lt fresh_back)
local macro_rules | `(tactic| walk_at "sd") => `(tactic| first | assumption | omega | decide | (constructor <;> assumption) | (constructor <;> omega))
section
variable {P : Program} {w : World} {K : PySem.W.Frag} {mg : Str → Option Value} {base : Heap}

/-! ### models of labels -/
structure LabV (S : Sty) (l : Lab) : Prop where
  nm : IsName l.name
  rk : S.In l.rank
  ok : (decide ((S.row l.rank).least ≤ l.letters) && decide (l.letters ≤ (S.row l.rank).most) && (decide (0 ≤ l.weight) && decide (l.weight ≤ 9) && (decide (-99999 ≤ l.x) && decide (l.x ≤ 99999) && (decide (-99999 ≤ l.y) && decide (l.y ≤ 99999))))) = true
def keyOfL (l : Lab) : Int × Int × Str := (l.rank, -l.weight, l.name)
def keyD (K : PySem.W.Frag) (k : Int × Int × Str) : Dt := dTup K [dI k.1, dI k.2.1, dS k.2.2]
def gapL (a b : Lab) : Int := if iabs (a.y - b.y) < iabs (a.x - b.x) then iabs (a.x - b.x) else iabs (a.y - b.y)
def labsD (K : PySem.W.Frag) (S : Sty) (ls : List Lab) : Dt := dTup K (ls.map (labD K S))
def Stands (S : Sty) (ls : List Lab) (l : Lab) : Prop := ∀ o ∈ ls, S.In o.rank ∧ ¬ o.name = l.name ∧ S.dist o.rank l.rank ≤ gapL o l
def Sheet (S : Sty) (ls : List Lab) : Prop := ls.length ≤ 30 ∧ ∀ (i : Nat) (l : Lab), ls[i]? = some l → LabV S l ∧ Stands S (ls.take i) l
def tileD (K : PySem.W.Frag) (x y s : Int) : Dt := dTup K [dI x, dI y, dI s]
def liesL (l : Lab) (x y s t : Int) : Bool := decide (x - t ≤ l.x) && decide (l.x ≤ x + s + t) && (decide (y - t ≤ l.y) && decide (l.y ≤ y + s + t))
theorem cutD_to {α : Type} (xs : List α) (i : Nat) (h : i ≤ xs.length) : cutD xs none (some (i : Int)) = xs.take i := by
  unfold cutD
  rw [HT.sIx_nat, HT.sIx_none, List.drop_zero, Nat.sub_zero, Nat.min_eq_left h]

/-! is_place -/
def R_is_place (K : PySem.W.Frag) : List Dt → Dt → Prop := fun ds d => ∃ i : Int, ds = [dI i] ∧ d = dB (decide (-99999 ≤ i) && decide (i ≤ 99999))
abbrev N_is_place : List Str := ["value"]
theorem sc_is_place : FnScope N_is_place ["value"] (defScope s_is_place) := ⟨rfl, rfl, rfl, by decide +kernel, rfl, by decide +kernel, by decide +kernel⟩
theorem fn_is_place (T : Tx w K mg) : Fn0 P w K mg base 3 "is_place" ["value"] (spP (R_is_place K)) := by
  obtain ⟨fd, F⟩ := T.f_is_place
  have nd := sc_is_place.nd
  refine mk_fn T.g_is_place F.kp (fn_pure F sc_is_place (by rintro _ _ ⟨i, rfl, rfl⟩; rfl) (fun cdv A outer s H E hr => ?_)) (F.bindsN fun _ _ _ _ _ _ us hl => match us, hl with | [_], _ => rfl)
  have hu := hu_of hr
  have hu65 := hu65 hr
  refine ⟨_, (pss_one (ps_ret (pe_callF (fn_is_between T) hr (pa_cons (pv 0) (pa_cons (pe_un un_neg (pe_gint T.c_MOST_PLACE)) (pa_cons (pe_gint T.c_MOST_PLACE) pa_nil)))))), ?_⟩
  rintro _ _ ⟨i, rfl, rfl⟩
  exact sd_ret (ed_call (eda_cons ed_var (eda_cons (ed_neg ed_c) (eda_cons ed_c eda_nil))) ⟨_, _, _, rfl, rfl⟩)

/-! is_weight -/
def R_is_weight (K : PySem.W.Frag) : List Dt → Dt → Prop := fun ds d => ∃ i : Int, ds = [dI i] ∧ d = dB (decide (0 ≤ i) && decide (i ≤ 9))
abbrev N_is_weight : List Str := ["value"]
theorem sc_is_weight : FnScope N_is_weight ["value"] (defScope s_is_weight) := ⟨rfl, rfl, rfl, by decide +kernel, rfl, by decide +kernel, by decide +kernel⟩
theorem fn_is_weight (T : Tx w K mg) : Fn0 P w K mg base 3 "is_weight" ["value"] (spP (R_is_weight K)) := by
  obtain ⟨fd, F⟩ := T.f_is_weight
  have nd := sc_is_weight.nd
  refine mk_fn T.g_is_weight F.kp (fn_pure F sc_is_weight (by rintro _ _ ⟨i, rfl, rfl⟩; rfl) (fun cdv A outer s H E hr => ?_)) (F.bindsN fun _ _ _ _ _ _ us hl => match us, hl with | [_], _ => rfl)
  have hu := hu_of hr
  have hu65 := hu65 hr
  refine ⟨_, (pss_one (ps_ret (pe_callF (fn_is_between T) hr (pa_cons (pv 0) (pa_cons pe_int (pa_cons (pe_gint T.c_MOST_WEIGHT) pa_nil)))))), ?_⟩
  rintro _ _ ⟨i, rfl, rfl⟩
  exact sd_ret (ed_call (eda_cons ed_var (eda_cons ed_c (eda_cons ed_c eda_nil))) ⟨_, _, _, rfl, rfl⟩)

/-! is_side -/
def R_is_side (K : PySem.W.Frag) : List Dt → Dt → Prop := fun ds d => ∃ i : Int, ds = [dI i] ∧ d = dB (decide (1 ≤ i) && decide (i ≤ 9999))
abbrev N_is_side : List Str := ["value"]
theorem sc_is_side : FnScope N_is_side ["value"] (defScope s_is_side) := ⟨rfl, rfl, rfl, by decide +kernel, rfl, by decide +kernel, by decide +kernel⟩
theorem fn_is_side (T : Tx w K mg) : Fn0 P w K mg base 3 "is_side" ["value"] (spP (R_is_side K)) := by
  obtain ⟨fd, F⟩ := T.f_is_side
  have nd := sc_is_side.nd
  refine mk_fn T.g_is_side F.kp (fn_pure F sc_is_side (by rintro _ _ ⟨i, rfl, rfl⟩; rfl) (fun cdv A outer s H E hr => ?_)) (F.bindsN fun _ _ _ _ _ _ us hl => match us, hl with | [_], _ => rfl)
  have hu := hu_of hr
  have hu65 := hu65 hr
  refine ⟨_, (pss_one (ps_ret (pe_callF (fn_is_between T) hr (pa_cons (pv 0) (pa_cons pe_int (pa_cons (pe_gint T.c_MOST_SIDE) pa_nil)))))), ?_⟩
  rintro _ _ ⟨i, rfl, rfl⟩
  exact sd_ret (ed_call (eda_cons ed_var (eda_cons ed_c (eda_cons ed_c eda_nil))) ⟨_, _, _, rfl, rfl⟩)

/-! is_label -/
def R_is_label (K : PySem.W.Frag) : List Dt → Dt → Prop := fun ds d => ∃ S : Sty, ∃ l : Lab, (S.Ok) ∧ (LabV S l) ∧ ds = [dSty K S, labD K S l] ∧ d = dB true
abbrev N_is_label : List Str := ["style", "value", "name", "kind", "letters", "weight", "x", "y", "least", "most"]
theorem sc_is_label : FnScope N_is_label ["style", "value"] (defScope s_is_label) := ⟨rfl, rfl, rfl, by decide +kernel, rfl, by decide +kernel, by decide +kernel⟩
theorem fn_is_label (T : Tx w K mg) : Fn0 P w K mg base 4 "is_label" ["style", "value"] (spP (R_is_label K)) := by
  obtain ⟨fd, F⟩ := T.f_is_label
  have nd := sc_is_label.nd
  refine mk_fn T.g_is_label F.kp (fn_pure F sc_is_label (by rintro _ _ ⟨S, l, c0, c1, rfl, rfl⟩; rfl) (fun cdv A outer s H E hr => ?_)) (F.bindsN fun _ _ _ _ _ _ us hl => match us, hl with | [_, _], _ => rfl)
  have hu := hu_of hr
  have hu65 := hu65 hr
  refine ⟨_, (pss_cons (ps_if (pt_not (pt_val (pe_callF (fn_is_tuple T) (hr.mono (by decide)) (pa_cons (pv 1) (pa_cons (pe_gint T.c_LABEL_PARTS) (pa_cons (pe_gint T.c_LABEL_PARTS) pa_nil)))))) (pss_one (ps_ret pe_bl)) pss_nil) (pss_cons (ps_asg (pv 1) (pg_tupK K (n := 6) (pgs_cons (pg_name (i := 2) nd rfl (Or.inl rfl)) (pgs_cons (pg_name (i := 3) nd rfl (Or.inl rfl)) (pgs_cons (pg_name (i := 4) nd rfl (Or.inl rfl)) (pgs_cons (pg_name (i := 5) nd rfl (Or.inl rfl)) (pgs_cons (pg_name (i := 6) nd rfl (Or.inl rfl)) (pgs_cons (pg_name (i := 7) nd rfl (Or.inl rfl)) pgs_nil)))))))) (pss_cons (ps_if (PW.pt (pw_or (pt_not (pt_val (pe_callF (fn_is_name T) (hr.mono (by decide)) (pa_cons (pv 2) pa_nil)))) (pw_or (pt_not (pt_val (pe_bi (crK_isi K) T.b_isinstance (by decide +kernel) (pa_cons (pv 3) (pa_cons (pe_gty (n := "str") T.b_str (by decide +kernel)) pa_nil))))) (pw_or1 (pt_cmp (pc_dnotinF hu (pv 3) (pe_fldK K (pv 0)))))))) (pss_one (ps_ret pe_bl)) pss_nil) (pss_cons (ps_asg (pe_fldK K (pe_ix (ixK_tup K) (pe_fldK K (pv 0)) (pe_dgetF hu (pe_fldK K (pv 0)) (pv 3) (fun _ _ => rfl)) (fun _ _ => rfl))) (pg_tupK K (n := 2) (pgs_cons (pg_name (i := 8) nd rfl (Or.inl rfl)) (pgs_cons (pg_name (i := 9) nd rfl (Or.inl rfl)) pgs_nil)))) (pss_one (ps_ret (pe_and (pe_callF (fn_is_between T) (hr.mono (by decide)) (pa_cons (pv 4) (pa_cons (pv 8) (pa_cons (pv 9) pa_nil)))) (pe_and (pe_callF (fn_is_weight T) hr (pa_cons (pv 5) pa_nil)) (pe_and (pe_callF (fn_is_place T) hr (pa_cons (pv 6) pa_nil)) (pe_one (pe_callF (fn_is_place T) hr (pa_cons (pv 7) pa_nil)))))))))))), ?_⟩
  rintro _ _ ⟨S, l, c0, c1, rfl, rfl⟩
  have hv := c1
  refine sd_ifR (td_not (td_B (ed_call (eda_cons ed_var (eda_cons ed_c (eda_cons ed_c eda_nil))) ⟨_, _, _, rfl, rfl⟩))) (fun hb => absurd hb (by simp)) (fun hb => ?_)
  refine sd_seq (sd_asg ed_var (gd_tup (gds_cons gd_name (gds_cons gd_name (gds_cons gd_name (gds_cons gd_name (gds_cons gd_name (gds_cons gd_name gds_nil)))))))) ?_
  refine sd_ifR (td_or (td_not (td_B (ed_call (eda_cons ed_var eda_nil) ⟨_, hv.nm, rfl, rfl⟩))) fun _ => (td_or (td_not (td_B (ed_cb (eda_cons ed_var (eda_cons ed_c eda_nil)) (cd_isi tyd_S (by decide +kernel) (a := true))))) fun _ => (td_B (ed_notinDK ed_var (ed_fld ed_var (fd_Style_own_ranks T)))))) (fun hb => ?_) (fun hb => ?_)
  · rw [at_rank c0 hv.rk] at hb
    exact absurd hb (by simp)
  refine sd_seq (sd_asg (ed_fld (ed_ixT (ed_fld ed_var (fd_Style_own_rows T)) (ed_dget (ed_fld ed_var (fd_Style_own_ranks T)) ed_var (at_rank c0 hv.rk)) (at_rows hv.rk)) (fd_Row_own_letters T)) (gd_tup (gds_cons gd_name (gds_cons gd_name gds_nil)))) (sd_ret ?_)
  refine ed_is (ed_andV (ed_call (eda_cons ed_var (eda_cons ed_var (eda_cons ed_var eda_nil))) ⟨_, _, _, rfl, rfl⟩) fun _ => (ed_andV (ed_call (eda_cons ed_var eda_nil) ⟨_, rfl, rfl⟩) fun _ => (ed_andV (ed_call (eda_cons ed_var eda_nil) ⟨_, rfl, rfl⟩) fun _ => (ed_call (eda_cons ed_var eda_nil) ⟨_, rfl, rfl⟩)))) ?_
  rw [hv.ok]

/-! order_key -/
def R_order_key (K : PySem.W.Frag) : List Dt → Dt → Prop := fun ds d => ∃ S : Sty, ∃ l : Lab, (S.Ok) ∧ (S.In l.rank) ∧ ds = [dSty K S, labD K S l] ∧ d = keyD K (keyOfL l)
abbrev N_order_key : List Str := ["style", "label"]
theorem sc_order_key : FnScope N_order_key ["style", "label"] (defScope s_order_key) := ⟨rfl, rfl, rfl, by decide +kernel, rfl, by decide +kernel, by decide +kernel⟩
theorem fn_order_key (T : Tx w K mg) : Fn0 P w K mg base 1 "order_key" ["style", "label"] (spP (R_order_key K)) := by
  obtain ⟨fd, F⟩ := T.f_order_key
  have nd := sc_order_key.nd
  refine mk_fn T.g_order_key F.kp (fn_pure F sc_order_key (by rintro _ _ ⟨S, l, c0, c1, rfl, rfl⟩; rfl) (fun cdv A outer s H E hr => ?_)) (F.bindsN fun _ _ _ _ _ _ us hl => match us, hl with | [_, _], _ => rfl)
  have hu := hu_of hr
  have hu65 := hu65 hr
  refine ⟨_, (pss_one (ps_ret (pe_tup (pa_cons (pe_dgetF hu (pe_fldK K (pv 0)) (pe_ix (ixK_tup K) (pv 1) pe_int (fun _ _ => rfl)) (fun _ _ => rfl)) (pa_cons (pe_un un_neg (pe_ix (ixK_tup K) (pv 1) pe_int (fun _ _ => rfl))) (pa_cons (pe_ix (ixK_tup K) (pv 1) pe_int (fun _ _ => rfl)) pa_nil)))))), ?_⟩
  rintro _ _ ⟨S, l, c0, c1, rfl, rfl⟩
  exact sd_ret (ed_tup (eda_cons (ed_dget (ed_fld ed_var (fd_Style_own_ranks T)) (ed_ixT ed_var ed_c rfl) (at_rank c0 c1)) (eda_cons (ed_neg (ed_ixT ed_var ed_c rfl)) (eda_cons (ed_ixT ed_var ed_c rfl) eda_nil))) (by simp))

/-! gap_between -/
def R_gap_between (K : PySem.W.Frag) : List Dt → Dt → Prop := fun ds d => ∃ S : Sty, ∃ a : Lab, ∃ b : Lab, ds = [labD K S a, labD K S b] ∧ d = dI (gapL a b)
abbrev N_gap_between : List Str := ["one", "other", "across", "up"]
theorem sc_gap_between : FnScope N_gap_between ["one", "other"] (defScope s_gap_between) := ⟨rfl, rfl, rfl, by decide +kernel, rfl, by decide +kernel, by decide +kernel⟩
theorem fn_gap_between (T : Tx w K mg) : Fn0 P w K mg base 1 "gap_between" ["one", "other"] (spP (R_gap_between K)) := by
  obtain ⟨fd, F⟩ := T.f_gap_between
  have nd := sc_gap_between.nd
  refine mk_fn T.g_gap_between F.kp (fn_pure F sc_gap_between (by rintro _ _ ⟨S, a, b, rfl, rfl⟩; rfl) (fun cdv A outer s H E hr => ?_)) (F.bindsN fun _ _ _ _ _ _ us hl => match us, hl with | [_, _], _ => rfl)
  have hu := hu_of hr
  have hu65 := hu65 hr
  refine ⟨_, (pss_cons (ps_par (i := 2) (j := 3) (by rfl) nd rfl rfl (by decide) rfl rfl (pa_cons (pe_bi call_abs T.b_abs (by decide +kernel) (pa_cons (pe_op op_sub (pe_ix (ixK_tup K) (pv 0) pe_int (fun _ _ => rfl)) (pe_ix (ixK_tup K) (pv 1) pe_int (fun _ _ => rfl))) pa_nil)) (pa_cons (pe_bi call_abs T.b_abs (by decide +kernel) (pa_cons (pe_op op_sub (pe_ix (ixK_tup K) (pv 0) pe_int (fun _ _ => rfl)) (pe_ix (ixK_tup K) (pv 1) pe_int (fun _ _ => rfl))) pa_nil)) pa_nil)) (by rfl)) (pss_one (ps_ret (pe_ifExp (pt_cmpR op_gt (pv 2) (pv 3) (nomark _)) (pv 2) (pv 3))))), ?_⟩
  rintro _ _ ⟨S, a, b, rfl, rfl⟩
  refine sd_seq (sd_par (eda_cons (ed_cb (eda_cons (ed_sub (ed_ixT ed_var ed_c rfl) (ed_ixT ed_var ed_c rfl)) eda_nil) cd_abs) (eda_cons (ed_cb (eda_cons (ed_sub (ed_ixT ed_var ed_c rfl) (ed_ixT ed_var ed_c rfl)) eda_nil) cd_abs) eda_nil)))
      (sd_ret (ed_if (td_test (ed_gt ed_var ed_var)) (fun hb => ?_) fun hb => ?_))
  · refine ed_is ed_var ?_
    unfold gapL iabs
    rw [if_pos (of_decide_eq_true hb)]
  · refine ed_is ed_var ?_
    unfold gapL iabs
    rw [if_neg (of_decide_eq_false hb)]

/-! can_stand -/
def R_can_stand (K : PySem.W.Frag) : List Dt → Dt → Prop := fun ds d => ∃ S : Sty, ∃ ls : List Lab, ∃ l : Lab, (S.Ok) ∧ (ls.length < 30) ∧ (LabV S l) ∧ (Stands S ls l) ∧ ds = [dSty K S, labsD K S ls, labD K S l] ∧ d = dB true
abbrev N_can_stand : List Str := ["style", "labels", "value", "rank", "label"]
theorem sc_can_stand : FnScope N_can_stand ["style", "labels", "value"] (defScope s_can_stand) := ⟨rfl, rfl, rfl, by decide +kernel, rfl, by decide +kernel, by decide +kernel⟩
theorem fn_can_stand (T : Tx w K mg) : Fn0 P w K mg base 5 "can_stand" ["style", "labels", "value"] (spP (R_can_stand K)) := by
  obtain ⟨fd, F⟩ := T.f_can_stand
  have nd := sc_can_stand.nd
  refine mk_fn T.g_can_stand F.kp (fn_pure F sc_can_stand (by rintro _ _ ⟨S, ls, l, c0, c1, c2, c3, rfl, rfl⟩; rfl) (fun cdv A outer s H E hr => ?_)) (F.bindsN fun _ _ _ _ _ _ us hl => match us, hl with | [_, _, _], _ => rfl)
  have hu := hu_of hr
  have hu65 := hu65 hr
  refine ⟨_, (pss_cons (ps_if (PW.pt (pw_or (pt_cmpR op_ge (pe_bi (crK_len K) T.b_len (by decide +kernel) (pa_cons (pv 1) pa_nil)) (pe_gint T.c_MOST_LABELS) (nomark _)) (pw_or1 (pt_not (pt_val (pe_callF (fn_is_label T) hr (pa_cons (pv 0) (pa_cons (pv 2) pa_nil)))))))) (pss_one (ps_ret pe_bl)) pss_nil) (pss_cons (ps_set (i := 3) nd rfl (Or.inl rfl) (pe_dgetF hu (pe_fldK K (pv 0)) (pe_ix (ixK_tup K) (pv 2) pe_int (fun _ _ => rfl)) (fun _ _ => rfl))) (pss_cons (ps_for PassesOwn.never rfl (pi_tupK K (pv 1)) (pg_name (i := 4) nd rfl (Or.inl rfl)) (pss_one (ps_if (PW.pt (pw_or (pt_cmpR op_eq (pe_ix (ixK_tup K) (pv 4) pe_int (fun _ _ => rfl)) (pe_ix (ixK_tup K) (pv 2) pe_int (fun _ _ => rfl)) (nomark _)) (pw_or1 (pt_cmpR op_lt (pe_callF (fn_gap_between T) (hr.mono (by decide)) (pa_cons (pv 4) (pa_cons (pv 2) pa_nil))) (pe_methF (fn_Style_distance T) T.cl_Style (hr.mono (by decide)) (pv 0) (pa_cons (pe_dgetF hu (pe_fldK K (pv 0)) (pe_ix (ixK_tup K) (pv 4) pe_int (fun _ _ => rfl)) (fun _ _ => rfl)) (pa_cons (pv 3) pa_nil))) (nomark _))))) (pss_one (ps_ret pe_bl)) pss_nil))) (pss_one (ps_ret pe_bl))))), ?_⟩
  rintro _ _ ⟨S, ls, l, c0, c1, c2, c3, rfl, rfl⟩
  refine sd_ifR (td_or (td_test (ed_ge (ed_cb (eda_cons ed_var eda_nil) cd_lenT) ed_c)) fun _ => (td_not (td_B (ed_call (eda_cons ed_var (eda_cons ed_var eda_nil)) ⟨_, _, c0, c2, rfl, rfl⟩)))) (fun hb => ?_) (fun hb => ?_)
  · rw [decide_eq_false (show ¬ (30 : Int) ≤ _ by rw [List.length_map]; omega)] at hb
    exact absurd hb (by decide)
  refine sd_seq (sd_set (ed_dget (ed_fld ed_var (fd_Style_own_ranks T)) (ed_ixT ed_var ed_c rfl) (at_rank c0 c2.rk))) ?_
  refine sd_seq (sd_for (wd_tup ed_var) (fun _ => [some (dSty K S), some (labsD K S ls), some (labD K S l), some (dI l.rank), none]) (Wk.refl _) fun i d hd => ?_) (sd_ret ed_c)
  obtain ⟨o, ho, hm, rfl⟩ := forE hd
  obtain ⟨h1, h2, h3⟩ := c3 o hm
  refine ⟨_, _, gd_name, sd_wk (sd_if (td_or (td_test (ed_eqS (ed_ixT ed_var ed_c rfl) (ed_ixT ed_var ed_c rfl))) fun _ => (td_test (ed_lt (ed_call (eda_cons ed_var (eda_cons ed_var eda_nil)) ⟨S, _, _, rfl, rfl⟩) (ed_meth ed_var (md_Style T) (eda_cons (ed_dget (ed_fld ed_var (fd_Style_own_ranks T)) (ed_ixT ed_var ed_c rfl) (at_rank c0 h1)) (eda_cons ed_var eda_nil)) ⟨_, _, _, c0, rfl, rfl⟩)))) (fun hb => ?_) (fun hb => sd_next)) (wk_c (wk_c (wk_c (wk_c (wk_n wk_0)))))⟩
  rw [decide_eq_false h2, decide_eq_false (show ¬ gapL o l < S.dist o.rank l.rank by omega)] at hb
  exact absurd hb (by decide)

/-! first_bad -/
def R_first_bad (K : PySem.W.Frag) : List Dt → Dt → Prop := fun ds d => ∃ S : Sty, ∃ ls : List Lab, (S.Ok) ∧ (Sheet S ls) ∧ ds = [dSty K S, labsD K S ls] ∧ d = dI 0
abbrev N_first_bad : List Str := ["style", "values", "at", "value"]
theorem sc_first_bad : FnScope N_first_bad ["style", "values"] (defScope s_first_bad) := ⟨rfl, rfl, rfl, by decide +kernel, rfl, by decide +kernel, by decide +kernel⟩
theorem fn_first_bad (T : Tx w K mg) : Fn0 P w K mg base 6 "first_bad" ["style", "values"] (spP (R_first_bad K)) := by
  obtain ⟨fd, F⟩ := T.f_first_bad
  have nd := sc_first_bad.nd
  refine mk_fn T.g_first_bad F.kp (fn_pure F sc_first_bad (by rintro _ _ ⟨S, ls, c0, c1, rfl, rfl⟩; rfl) (fun cdv A outer s H E hr => ?_)) (F.bindsN fun _ _ _ _ _ _ us hl => match us, hl with | [_, _], _ => rfl)
  have hu := hu_of hr
  have hu65 := hu65 hr
  refine ⟨_, (pss_cons (ps_for PassesOwn.never rfl (pi_enumTK K T.b_enumerate (pa_cons (pv 1) pa_nil)) (pg_tupK K (n := 2) (pgs_cons (pg_name (i := 2) nd rfl (Or.inl rfl)) (pgs_cons (pg_name (i := 3) nd rfl (Or.inl rfl)) pgs_nil))) (pss_one (ps_if (pt_not (pt_val (pe_callF (fn_can_stand T) hr (pa_cons (pv 0) (pa_cons (pe_slice (slK_tupA K) (pv 1) po_none (po_some (pv 2))) (pa_cons (pv 3) pa_nil)))))) (pss_one (ps_ret (pe_op op_add (pv 2) pe_int))) pss_nil))) (pss_one (ps_ret pe_int))), ?_⟩
  rintro _ _ ⟨S, ls, c0, c1, rfl, rfl⟩
  refine sd_seq (sd_for (wd_enumT (eda_cons ed_var eda_nil)) (fun _ => [some (dSty K S), some (labsD K S ls), none, none]) (Wk.refl _) fun i d hd => ?_) (sd_ret ed_c)
  obtain ⟨d0, h0, rfl⟩ := numbered_at hd
  obtain ⟨l, hl, hm, rfl⟩ := forE h0
  have hi := (List.getElem?_eq_some_iff.mp hl).1
  have hz := c1.1
  obtain ⟨h1, h2⟩ := c1.2 i l hl
  refine ⟨_, _, gd_tup (gds_cons gd_name (gds_cons gd_name gds_nil)), sd_wk (sd_if (td_not (td_B (ed_call (eda_cons ed_var (eda_cons (ed_is (ed_slT ed_var edo_none (edo_some ed_var)) (x' := labsD K S (ls.take i)) (by rw [cutD_to _ _ (by rw [List.length_map]; omega), ← List.map_take]; rfl)) (eda_cons ed_var eda_nil))) ⟨_, _, _, c0, by rw [List.length_take]; omega, h1, h2, rfl, rfl⟩))) (fun hb => absurd hb (by decide)) (fun hb => sd_next)) (wk_c (wk_c (wk_n (wk_n wk_0))))⟩

/-! are_labels -/
def R_are_labels (K : PySem.W.Frag) : List Dt → Dt → Prop := fun ds d => ∃ S : Sty, ∃ ls : List Lab, (S.Ok) ∧ (Sheet S ls) ∧ ds = [dSty K S, labsD K S ls] ∧ d = dB true
abbrev N_are_labels : List Str := ["style", "value"]
theorem sc_are_labels : FnScope N_are_labels ["style", "value"] (defScope s_are_labels) := ⟨rfl, rfl, rfl, by decide +kernel, rfl, by decide +kernel, by decide +kernel⟩
theorem fn_are_labels (T : Tx w K mg) : Fn0 P w K mg base 7 "are_labels" ["style", "value"] (spP (R_are_labels K)) := by
  obtain ⟨fd, F⟩ := T.f_are_labels
  have nd := sc_are_labels.nd
  refine mk_fn T.g_are_labels F.kp (fn_pure F sc_are_labels (by rintro _ _ ⟨S, ls, c0, c1, rfl, rfl⟩; rfl) (fun cdv A outer s H E hr => ?_)) (F.bindsN fun _ _ _ _ _ _ us hl => match us, hl with | [_, _], _ => rfl)
  have hu := hu_of hr
  have hu65 := hu65 hr
  refine ⟨_, (pss_one (ps_ret (pe_and (pe_callF (fn_is_tuple T) (hr.mono (by decide)) (pa_cons (pv 1) (pa_cons pe_int (pa_cons (pe_gint T.c_MOST_LABELS) pa_nil)))) (pe_one (pe_cmpR op_eq (pe_callF (fn_first_bad T) hr (pa_cons (pv 0) (pa_cons (pv 1) pa_nil))) pe_int (nomark _)))))), ?_⟩
  rintro _ _ ⟨S, ls, c0, c1, rfl, rfl⟩
  refine sd_ret (ed_is (ed_andV (ed_call (eda_cons ed_var (eda_cons ed_c (eda_cons ed_c eda_nil))) ⟨_, _, _, rfl, rfl⟩) fun _ => (ed_eqI (ed_call (eda_cons ed_var (eda_cons ed_var eda_nil)) ⟨_, _, c0, c1, rfl, rfl⟩) ed_c)) ?_)
  have hz := c1.1
  rw [List.length_map, decide_eq_true (show ((0 : Int) ≤ (ls.length : Int)) by omega), decide_eq_true (show ((ls.length : Int) ≤ 30) by omega)]
  rfl

/-! lies_by -/
def R_lies_by (K : PySem.W.Frag) : List Dt → Dt → Prop := fun ds d => ∃ S : Sty, ∃ l : Lab, ∃ x : Int, ∃ y : Int, ∃ s : Int, ∃ t : Int, ds = [labD K S l, tileD K x y s, dI t] ∧ d = dB (liesL l x y s t)
abbrev N_lies_by : List Str := ["label", "tile", "strip", "x", "y", "side"]
theorem sc_lies_by : FnScope N_lies_by ["label", "tile", "strip"] (defScope s_lies_by) := ⟨rfl, rfl, rfl, by decide +kernel, rfl, by decide +kernel, by decide +kernel⟩
theorem fn_lies_by (T : Tx w K mg) : Fn0 P w K mg base 1 "lies_by" ["label", "tile", "strip"] (spP (R_lies_by K)) := by
  obtain ⟨fd, F⟩ := T.f_lies_by
  have nd := sc_lies_by.nd
  refine mk_fn T.g_lies_by F.kp (fn_pure F sc_lies_by (by rintro _ _ ⟨S, l, x, y, s, t, rfl, rfl⟩; rfl) (fun cdv A outer s H E hr => ?_)) (F.bindsN fun _ _ _ _ _ _ us hl => match us, hl with | [_, _, _], _ => rfl)
  have hu := hu_of hr
  have hu65 := hu65 hr
  refine ⟨_, (pss_cons (ps_asg (pv 1) (pg_tupK K (n := 3) (pgs_cons (pg_name (i := 3) nd rfl (Or.inl rfl)) (pgs_cons (pg_name (i := 4) nd rfl (Or.inl rfl)) (pgs_cons (pg_name (i := 5) nd rfl (Or.inl rfl)) pgs_nil))))) (pss_one (ps_ret (pe_and (pe_chain op_le op_le (pe_op op_sub (pv 3) (pv 2)) (pe_ix (ixK_tup K) (pv 0) pe_int (fun _ _ => rfl)) (pe_op op_add (pe_op op_add (pv 3) (pv 5)) (pv 2)) rfl) (pe_one (pe_chain op_le op_le (pe_op op_sub (pv 4) (pv 2)) (pe_ix (ixK_tup K) (pv 0) pe_int (fun _ _ => rfl)) (pe_op op_add (pe_op op_add (pv 4) (pv 5)) (pv 2)) rfl)))))), ?_⟩
  rintro _ _ ⟨S, l, x, y, s, t, rfl, rfl⟩
  refine sd_seq (sd_asg ed_var (gd_tup (gds_cons gd_name (gds_cons gd_name (gds_cons gd_name gds_nil)))))
      (sd_ret (ed_andV (ed_chain (ed_sub ed_var ed_var) (ed_ixT ed_var ed_c rfl) (ed_add (ed_add ed_var ed_var) ed_var)) fun _ => (ed_chain (ed_sub ed_var ed_var) (ed_ixT ed_var ed_c rfl) (ed_add (ed_add ed_var ed_var) ed_var))))

end
end Sl
namespace Sl
open PySem PySem.Spec PyProof.Rows L2 StX RZ
open Evl (Ex ex_l ex_t ex_rd sq_of st_of sz_of sz_lt fresh_back)
local macro_rules | `(tactic| walk_at "sd") => `(tactic| first | assumption | omega | decide | (constructor <;> assumption) | (constructor <;> omega))
section
variable {P : Program} {w : World} {K : PySem.W.Frag} {mg : Str → Option Value} {base : Heap}

def meetL (S : Sty) (z : Int) (l : Lab) (x y s : Int) : Bool := !(decide (l.x + hw S z l.rank l.letters ≤ x) || decide (x + s ≤ l.x - hw S z l.rank l.letters)) && (decide (y < l.y + hh S z l.rank) && decide (l.y - hh S z l.rank < y + s))
def lookF (S : Sty) (z : Int) (acc ls : List Lab) : List Lab := ls.foldl (fun acc l => if acc.any (clashL S z l) then acc else acc ++ [l]) acc
theorem lookF_next (S : Sty) (z : Int) {ls : List Lab} {i : Nat} {l : Lab} (h : ls[i]? = some l) : lookF S z [] (ls.take (i + 1)) = if (lookF S z [] (ls.take i)).any (clashL S z l) then lookF S z [] (ls.take i) else lookF S z [] (ls.take i) ++ [l] := by
  have e : ls.take (i + 1) = ls.take i ++ [l] := by rw [List.take_add_one, h]; rfl
  unfold lookF
  rw [e, List.foldl_append]
  rfl
theorem lookF_acc (S : Sty) (z : Int) : ∀ (ls acc : List Lab), (∀ o ∈ lookF S z acc ls, o ∈ acc ∨ o ∈ ls) ∧ (lookF S z acc ls).length ≤ acc.length + ls.length
  | [], acc => ⟨fun o h => .inl h, Nat.le_refl _⟩
  | l :: ls, acc => by
    have e : lookF S z acc (l :: ls) = lookF S z (if acc.any (clashL S z l) then acc else acc ++ [l]) ls := rfl
    rw [e]
    split
    · obtain ⟨h1, h2⟩ := lookF_acc S z ls acc
      refine ⟨fun o h => ?_, by simp; omega⟩
      rcases h1 o h with h | h
      · exact .inl h
      · exact .inr (List.mem_cons_of_mem _ h)
    · obtain ⟨h1, h2⟩ := lookF_acc S z ls (acc ++ [l])
      refine ⟨fun o h => ?_, by simp at h2 ⊢; omega⟩
      rcases h1 o h with h | h
      · rcases List.mem_append.mp h with h | h
        · exact .inl h
        · rw [List.mem_singleton.mp h]
          exact .inr List.mem_cons_self
      · exact .inr (List.mem_cons_of_mem _ h)
theorem lookF_sub (S : Sty) (z : Int) (ls : List Lab) : ∀ o ∈ lookF S z [] ls, o ∈ ls := fun o h => by
  rcases (lookF_acc S z ls []).1 o h with h | h
  · cases h
  · exact h
theorem lookF_len (S : Sty) (z : Int) (ls : List Lab) : (lookF S z [] ls).length ≤ ls.length := by
  have := (lookF_acc S z ls []).2
  simpa using this
def dO : Option Int → Dt
  | none => dN
  | some t => dI t
def knownL (x y s : Int) : Option Int → Lab → Bool
  | none, _ => true
  | some t, l => liesL l x y s t
def toldL (S : Sty) (z : Int) (ls : List Lab) (x y s : Int) (o : Option Int) : List Lab := (lookF S z [] (ls.filter (knownL x y s o))).filter fun l => meetL S z l x y s

/-! meets -/
def R_meets (K : PySem.W.Frag) : List Dt → Dt → Prop := fun ds d => ∃ S : Sty, ∃ z : Int, ∃ l : Lab, ∃ x : Int, ∃ y : Int, ∃ s : Int, (S.Ok ∧ LabOk S z l) ∧ ds = [dVw K S z, labD K S l, tileD K x y s] ∧ d = dB (meetL S z l x y s)
abbrev N_meets : List Str := ["view", "label", "tile", "box", "x", "y", "side"]
theorem sc_meets : FnScope N_meets ["view", "label", "tile"] (defScope s_meets) := ⟨rfl, rfl, rfl, by decide +kernel, rfl, by decide +kernel, by decide +kernel⟩
theorem fn_meets (T : Tx w K mg) : Fn0 P w K mg base 4 "meets" ["view", "label", "tile"] (spP (R_meets K)) := by
  obtain ⟨fd, F⟩ := T.f_meets
  have nd := sc_meets.nd
  refine mk_fn T.g_meets F.kp (fn_pure F sc_meets (by rintro _ _ ⟨S, z, l, x, y, s, c0, rfl, rfl⟩; rfl) (fun cdv A outer s H E hr => ?_)) (F.bindsN fun _ _ _ _ _ _ us hl => match us, hl with | [_, _, _], _ => rfl)
  have hu := hu_of hr
  have hu65 := hu65 hr
  refine ⟨_, (pss_cons (ps_asg (pe_tup (pa_cons (pe_methF (fn_View_box T) T.cl_View hr (pv 0) (pa_cons (pv 1) pa_nil)) (pa_cons (pv 2) pa_nil))) (pg_tupK K (n := 2) (pgs_cons (pg_name (i := 3) nd rfl (Or.inl rfl)) (pgs_cons (pg_tupK K (n := 3) (pgs_cons (pg_name (i := 4) nd rfl (Or.inl rfl)) (pgs_cons (pg_name (i := 5) nd rfl (Or.inl rfl)) (pgs_cons (pg_name (i := 6) nd rfl (Or.inl rfl)) pgs_nil)))) pgs_nil)))) (pss_cons (ps_if (PW.pt (pw_or (pt_cmp (pc_isN (pv 3))) (pw_or (pt_cmpR op_le (pe_op op_add (pe_ix (ixK_tup K) (pv 1) pe_int (fun _ _ => rfl)) (pe_ix (ixK_tup K) (pv 3) (pe_gint T.c_WIDE) (fun _ _ => rfl))) (pv 4) (nomark _)) (pw_or1 (pt_cmpR op_ge (pe_op op_sub (pe_ix (ixK_tup K) (pv 1) pe_int (fun _ _ => rfl)) (pe_ix (ixK_tup K) (pv 3) (pe_gint T.c_WIDE) (fun _ _ => rfl))) (pe_op op_add (pv 4) (pv 6)) (nomark _)))))) (pss_one (ps_ret pe_bl)) pss_nil) (pss_one (ps_ret (pe_and (pe_cmpR op_gt (pe_op op_add (pe_ix (ixK_tup K) (pv 1) pe_int (fun _ _ => rfl)) (pe_ix (ixK_tup K) (pv 3) (pe_gint T.c_HIGH) (fun _ _ => rfl))) (pv 5) (nomark _)) (pe_one (pe_cmpR op_lt (pe_op op_sub (pe_ix (ixK_tup K) (pv 1) pe_int (fun _ _ => rfl)) (pe_ix (ixK_tup K) (pv 3) (pe_gint T.c_HIGH) (fun _ _ => rfl))) (pe_op op_add (pv 5) (pv 6)) (nomark _)))))))), ?_⟩
  rintro _ _ ⟨S, z, l, x, y, s, c0, rfl, rfl⟩
  refine sd_seq (sd_asg (ed_tup (eda_cons (ed_meth ed_var (md_View T) (eda_cons ed_var eda_nil) ⟨_, _, _, c0, rfl, rfl⟩) (eda_cons ed_var eda_nil)) (by simp)) (gd_tup (gds_cons gd_name (gds_cons (gd_tup (gds_cons gd_name (gds_cons gd_name (gds_cons gd_name gds_nil)))) gds_nil)))) ?_
  refine sd_ifR (td_or (td_B (ed_isSome ed_var notN_tup)) fun _ => (td_or (td_test (ed_le (ed_add (ed_ixT ed_var ed_c rfl) (ed_ixT ed_var ed_c rfl)) ed_var)) fun _ => (td_test (ed_ge (ed_sub (ed_ixT ed_var ed_c rfl) (ed_ixT ed_var ed_c rfl)) (ed_add ed_var ed_var))))) (fun hb => ?_) (fun hb => ?_)
  · refine sd_ret (ed_is ed_c ?_)
    rw [Bool.false_or] at hb
    unfold meetL
    rw [hb]
    rfl
  · refine sd_ret (ed_is (ed_andV (ed_gt (ed_add (ed_ixT ed_var ed_c rfl) (ed_ixT ed_var ed_c rfl)) ed_var) fun _ => (ed_lt (ed_sub (ed_ixT ed_var ed_c rfl) (ed_ixT ed_var ed_c rfl)) (ed_add ed_var ed_var))) ?_)
    rw [Bool.false_or] at hb
    unfold meetL
    rw [hb]
    rfl

/-! looked -/
def R_looked (K : PySem.W.Frag) : List Dt → Dt → Prop := fun ds d => ∃ S : Sty, ∃ z : Int, ∃ ls : List Lab, (S.Ok ∧ ∀ l ∈ ls, LabOk S z l) ∧ (ls.length ≤ 30) ∧ ds = [dVw K S z, dLst K (ls.map (labD K S))] ∧ d = dLst K ((lookF S z [] ls).map (labD K S))
abbrev N_looked : List Str := ["view", "rows", "found", "label", "one"]
theorem sc_looked : FnScope N_looked ["view", "rows"] (defScope s_looked) := ⟨rfl, rfl, rfl, by decide +kernel, rfl, by decide +kernel, by decide +kernel⟩
theorem fn_looked (T : Tx w K mg) : Fn0 P w K mg base 6 "looked" ["view", "rows"] (spP (R_looked K)) := by
  obtain ⟨fd, F⟩ := T.f_looked
  have nd := sc_looked.nd
  refine mk_fn T.g_looked F.kp (fn_pure F sc_looked (by rintro _ _ ⟨S, z, ls, c0, c1, rfl, rfl⟩; rfl) (fun cdv A outer s H E hr => ?_)) (F.bindsN fun _ _ _ _ _ _ us hl => match us, hl with | [_, _], _ => rfl)
  have hu := hu_of hr
  have hu65 := hu65 hr
  refine ⟨_, (pss_cons (ps_set (i := 2) nd rfl (Or.inl rfl) (pe_lst pa_nil)) (pss_cons (ps_for PassesOwn.never rfl (pi_listK K (pv 1)) (pg_name (i := 3) nd rfl (Or.inr rfl)) (pss_one (ps_if (PW.pt (pw_and (pt_cmp (pc_notN (pe_methF (fn_View_box T) T.cl_View (hr.mono (by decide)) (pv 0) (pa_cons (pv 3) pa_nil)))) (pw_and1 (pt_not (pt_val (pe_bi (crK_any K) T.b_any (by decide +kernel) (pa_cons (pe_lc (own := [("one", 4)]) (by rfl) nd (pi_listK K (pv 2)) (blkOk_by (N := N_looked) (sc := defScope s_looked) (by decide +kernel)) (fun _ _ _ _ _ => (pg_name (i := 4) nd rfl (Or.inl rfl))) (fun _ _ _ _ _ => pts_nil) (fun _ _ _ _ _ => (pe_methF (fn_View_do_clash T) T.cl_View hr (pv 0) (pa_cons (pv 3) (pa_cons (pv 4) pa_nil))))) pa_nil))))))) (pss_one (ps_expr (pe_bm PySem.F.plainAttrs_list PySem.F.slot_list_append PySem.F.type_list_append mt_append (pv 2) (pa_cons (pv 3) pa_nil)))) pss_nil))) (pss_one (ps_ret (pv 2))))), ?_⟩
  rintro _ _ ⟨S, z, ls, c0, c1, rfl, rfl⟩
  refine sd_own (s1_seq (s1_for (fun i => ((lookF S z [] (ls.take i)).map (labD K S), [some (dVw K S z), some (dLst K (ls.map (labD K S))), none, none, none], List.replicate 5 none)) rfl (wdb_list rfl) fun i d hd => ?_) (s1_ret ?_)) (by show 2 < 5; decide)
  · obtain ⟨l, hl, hm, rfl⟩ := forE hd
    have hi := (List.getElem?_eq_some_iff.mp hl).1
    have hlen := lookF_len S z (ls.take i)
    rw [List.length_take] at hlen
    have hsub : ∀ o ∈ lookF S z [] (ls.take i), LabOk S z o := fun o ho => c0.2 o (List.mem_of_mem_take (lookF_sub S z _ o ho))
    refine ⟨_, _, gdi_name (imm_lab K S l), s1_wk (s1_if (td_and (td_B (ed_notSome (ed_meth ed_var (md_View T) (eda_cons ed_var eda_nil) ⟨_, _, _, ⟨c0.1, c0.2 l hm⟩, rfl, rfl⟩) notN_tup)) fun _ => (td_not (td_B (ed_cb (eda_cons (ed_is (ed_lc0 (K := K) (lookF S z [] (ls.take i)) (labD K S) (fun o => dB (clashL S z l o)) (wd_list ed_var) (by omega) (by decide) (fun _ _ => imm_V _) fun o ho => ⟨_, gd_name, (ed_meth ed_var (md_View T) (eda_cons ed_var (eda_cons ed_var eda_nil)) ⟨_, _, _, _, ⟨c0.1, c0.2 l hm⟩, hsub o ho, rfl, rfl⟩)⟩) (by rw [show (fun o => dB (clashL S z l o)) = (fun n => dB n) ∘ (clashL S z l) from rfl, ← List.map_map] <;> rfl)) eda_nil) (cd_any (K := K)))))) (o := .nx ((lookF S z [] (ls.take (i + 1))).map (labD K S)) [some (dVw K S z), some (dLst K (ls.map (labD K S))), none, none, none] [none, none, none, some (labD K S l), none]) (fun hb => ?_) (fun hb => ?_)) (wk_c (wk_c (wk_c (wk_c (wk_c wk_0))))) (wk_c (wk_c (wk_c (wk_n (wk_c wk_0))))) nones_imm⟩
    · rw [lookF_next S z hl, if_neg (by rw [List.any_map] at hb; simpa using hb), List.map_append]
      exact s1_app ed_var (imm_lab K S l) (by rw [List.length_map]; omega) ⟨by show 2 < 5; decide, by show 2 < 5; decide⟩
    · rw [lookF_next S z hl, if_pos (by rw [List.any_map] at hb; simpa using hb)]
      exact s1_next
  · rw [List.length_map, List.take_length]
    exact ed_var

/-! labels_told -/
def R_labels_told (K : PySem.W.Frag) : List Dt → Dt → Prop := fun ds d => ∃ S : Sty, ∃ z : Int, ∃ ls : List Lab, ∃ x : Int, ∃ y : Int, ∃ s : Int, ∃ o : Option Int, (S.Ok ∧ ∀ l ∈ ls, LabOk S z l) ∧ (ls.length ≤ 30) ∧ ds = [dVw K S z, labsD K S ls, tileD K x y s, dO o] ∧ d = dLst K ((toldL S z ls x y s o).map (labD K S))
abbrev N_labels_told : List Str := ["view", "labels", "tile", "strip", "known", "label"]
theorem sc_labels_told : FnScope N_labels_told ["view", "labels", "tile", "strip"] (defScope s_labels_told) := ⟨rfl, rfl, rfl, by decide +kernel, rfl, by decide +kernel, by decide +kernel⟩
theorem fn_labels_told (T : Tx w K mg) : Fn0 P w K mg base 7 "labels_told" ["view", "labels", "tile", "strip"] (spP (R_labels_told K)) := by
  obtain ⟨fd, F⟩ := T.f_labels_told
  have nd := sc_labels_told.nd
  refine mk_fn T.g_labels_told F.kp (fn_pure F sc_labels_told (by rintro _ _ ⟨S, z, ls, x, y, s, o, c0, c1, rfl, rfl⟩; rfl) (fun cdv A outer s H E hr => ?_)) (F.bindsN fun _ _ _ _ _ _ us hl => match us, hl with | [_, _, _, _], _ => rfl)
  have hu := hu_of hr
  have hu65 := hu65 hr
  refine ⟨_, (pss_cons (ps_setLc (i := 4) (own := [("label", 5)]) rfl nd rfl rfl (sw_true rfl rfl rfl (by decide +kernel)) (pi_tupK K (pv 1)) (blkOk_by (N := N_labels_told) (sc := defScope s_labels_told) (by decide +kernel)) (fun _ _ _ _ _ => (pg_name (i := 5) nd rfl (Or.inl rfl))) (fun _ _ _ _ _ => pts_one (PW.pt (pw_or (pt_cmp (pc_isN (pv 3))) (pw_or1 (pt_val (pe_callF (fn_lies_by T) (hr.mono (by decide)) (pa_cons (pv 5) (pa_cons (pv 2) (pa_cons (pv 3) pa_nil))))))))) (fun _ _ _ _ _ => (pv 5))) (pss_one (ps_ret (pe_lc (own := [("label", 5)]) (by rfl) nd (pi_listK K (pe_callF (fn_looked T) hr (pa_cons (pv 0) (pa_cons (pv 4) pa_nil)))) (blkOk_by (N := N_labels_told) (sc := defScope s_labels_told) (by decide +kernel)) (fun _ _ _ _ _ => (pg_name (i := 5) nd rfl (Or.inl rfl))) (fun _ _ _ _ _ => pts_one (pt_val (pe_callF (fn_meets T) (hr.mono (by decide)) (pa_cons (pv 0) (pa_cons (pv 5) (pa_cons (pv 2) pa_nil)))))) (fun _ _ _ _ _ => (pv 5)))))), ?_⟩
  rintro _ _ ⟨S, z, ls, x, y, s, o, c0, c1, rfl, rfl⟩
  have hk : ∀ l ∈ ls.filter (knownL x y s o), LabOk S z l := fun l hl => c0.2 l (List.mem_filter.mp hl).1
  have hz := List.length_filter_le (knownL x y s o) ls
  have hlk := lookF_len S z (ls.filter (knownL x y s o))
  have hT : ∀ l ∈ ls, ∀ ρ : Rho, ρ[3]? = some (some (dO o)) → ρ[2]? = some (some (tileD K x y s)) → ρ[5]? = some (some (labD K S l)) → Td (tOr (tB (tIsN (tVar 3))) (tB (tCall (spP (R_lies_by K)) [] E0 (tCons (tVar 5) (tCons (tVar 2) (tCons (tVar 3) tNil)))))) ρ (knownL x y s o l) := fun l hl ρ h3 h2 h5 => by
    cases o with
    | none => exact td_or (a := true) (b := true) (td_B (ed_isNone (ed_var h3))) fun h => absurd h (by decide)
    | some t => exact td_or (td_B (ed_isSome (ed_var h3) (notN_V (by simp)))) fun _ => td_B (ed_call (eda_cons (ed_var h5) (eda_cons (ed_var h2) (eda_cons (ed_var h3) eda_nil))) ⟨S, l, x, y, s, t, rfl, rfl⟩)
  refine sd_seq (sd_set (ed_lc (K := K) ls (labD K S) (knownL x y s o) (labD K S) (wd_tup ed_var) (by omega) (by decide) (fun l _ _ => imm_lab K S l) fun l hl => ⟨_, gd_name, hT l hl _ rfl rfl rfl, fun _ => ed_var⟩)) (sd_ret ?_)
  exact ed_lc (K := K) (lookF S z [] (ls.filter (knownL x y s o))) (labD K S) (fun l => meetL S z l x y s) (labD K S) (wd_list (ed_call (eda_cons ed_var (eda_cons ed_var eda_nil)) ⟨_, _, _, ⟨c0.1, hk⟩, by omega, rfl, rfl⟩)) (by omega) (by decide) (fun l _ _ => imm_lab K S l) fun l hl => ⟨_, gd_name, td_B (ed_call (eda_cons ed_var (eda_cons ed_var (eda_cons ed_var eda_nil))) ⟨_, _, _, _, _, _, ⟨c0.1, hk l (lookF_sub S z _ l hl)⟩, rfl, rfl⟩), fun _ => ed_var⟩

/-! strip_of -/
def R_strip_of (K : PySem.W.Frag) : List Dt → Dt → Prop := fun ds d => ∃ S : Sty, ∃ z : Int, ∃ i : Int, ∃ n : Nat, (S.Ok ∧ S.In i) ∧ (n + 1 ≤ 30) ∧ ds = [dVw K S z, dTup K (List.replicate (n + 1) (dI i))] ∧ d = dI (gr S z i - 1 + (n : Int) * (br S z i i - 1))
abbrev N_strip_of : List Str := ["view", "row"]
theorem sc_strip_of : FnScope N_strip_of ["view", "row"] (defScope s_strip_of) := ⟨rfl, rfl, rfl, by decide +kernel, rfl, by decide +kernel, by decide +kernel⟩
theorem fn_strip_of (T : Tx w K mg) : Fn0 P w K mg base 7 "strip_of" ["view", "row"] (spP (R_strip_of K)) := by
  obtain ⟨fd, F⟩ := T.f_strip_of
  have nd := sc_strip_of.nd
  refine mk_fn T.g_strip_of F.kp (fn_pure F sc_strip_of (by rintro _ _ ⟨S, z, i, n, c0, c1, rfl, rfl⟩; rfl) (fun cdv A outer s H E hr => ?_)) (F.bindsN fun _ _ _ _ _ _ us hl => match us, hl with | [_, _], _ => rfl)
  have hu := hu_of hr
  have hu65 := hu65 hr
  refine ⟨_, (pss_one (ps_ret (pe_op op_add (pe_op op_sub (pe_methF (fn_View_greatest T) T.cl_View (hr.mono (by decide)) (pv 0) (pa_cons (pe_ix (ixK_tup K) (pv 1) pe_int (fun _ _ => rfl)) pa_nil)) pe_int) (pe_callF (fn_span T) hr (pa_cons (pv 0) (pa_cons (pv 1) pa_nil)))))), ?_⟩
  rintro _ _ ⟨S, z, i, n, c0, c1, rfl, rfl⟩
  exact sd_ret (ed_add (ed_sub (ed_meth ed_var (md_View T) (eda_cons (ed_ixT ed_var ed_c (atI_in (by decide) rfl)) eda_nil) ⟨_, _, _, c0, rfl, rfl⟩) ed_c) (ed_call (eda_cons ed_var (eda_cons ed_var eda_nil)) ⟨_, _, _, _, c0, c1, rfl, rfl⟩))

/-! is_tile -/
def R_is_tile (K : PySem.W.Frag) : List Dt → Dt → Prop := fun ds d => ∃ x : Int, ∃ y : Int, ∃ s : Int, ds = [tileD K x y s] ∧ d = dB (decide (-99999 ≤ x) && decide (x ≤ 99999) && (decide (-99999 ≤ y) && decide (y ≤ 99999) && (decide (1 ≤ s) && decide (s ≤ 9999))))
abbrev N_is_tile : List Str := ["value"]
theorem sc_is_tile : FnScope N_is_tile ["value"] (defScope s_is_tile) := ⟨rfl, rfl, rfl, by decide +kernel, rfl, by decide +kernel, by decide +kernel⟩
theorem fn_is_tile (T : Tx w K mg) : Fn0 P w K mg base 4 "is_tile" ["value"] (spP (R_is_tile K)) := by
  obtain ⟨fd, F⟩ := T.f_is_tile
  have nd := sc_is_tile.nd
  refine mk_fn T.g_is_tile F.kp (fn_pure F sc_is_tile (by rintro _ _ ⟨x, y, s, rfl, rfl⟩; rfl) (fun cdv A outer s H E hr => ?_)) (F.bindsN fun _ _ _ _ _ _ us hl => match us, hl with | [_], _ => rfl)
  have hu := hu_of hr
  have hu65 := hu65 hr
  refine ⟨_, (pss_one (ps_ret (pe_and (pe_callF (fn_is_tuple T) (hr.mono (by decide)) (pa_cons (pv 0) (pa_cons (pe_gint T.c_TRIPLE) (pa_cons (pe_gint T.c_TRIPLE) pa_nil)))) (pe_and (pe_callF (fn_is_place T) hr (pa_cons (pe_ix (ixK_tup K) (pv 0) pe_int (fun _ _ => rfl)) pa_nil)) (pe_and (pe_callF (fn_is_place T) hr (pa_cons (pe_ix (ixK_tup K) (pv 0) pe_int (fun _ _ => rfl)) pa_nil)) (pe_one (pe_callF (fn_is_side T) hr (pa_cons (pe_ix (ixK_tup K) (pv 0) pe_int (fun _ _ => rfl)) pa_nil)))))))), ?_⟩
  rintro _ _ ⟨x, y, s, rfl, rfl⟩
  exact sd_ret (ed_is (ed_andV (ed_call (eda_cons ed_var (eda_cons ed_c (eda_cons ed_c eda_nil))) ⟨_, _, _, rfl, rfl⟩) fun _ => (ed_andV (ed_call (eda_cons (ed_ixT ed_var ed_c rfl) eda_nil) ⟨_, rfl, rfl⟩) fun _ => (ed_andV (ed_call (eda_cons (ed_ixT ed_var ed_c rfl) eda_nil) ⟨_, rfl, rfl⟩) fun _ => (ed_call (eda_cons (ed_ixT ed_var ed_c rfl) eda_nil) ⟨_, rfl, rfl⟩)))) rfl)

end
end Sl
namespace Sl
open PySem PySem.Spec PyProof.Rows L2 StX RZ
open Evl (Ex ex_l ex_t ex_rd sq_of st_of sz_of sz_lt fresh_back)
local macro_rules | `(tactic| walk_at "sd") => `(tactic| first | assumption | omega | decide | (constructor <;> assumption) | (constructor <;> omega))
section
variable {P : Program} {w : World} {K : PySem.W.Frag} {mg : Str → Option Value} {base : Heap}

theorem Tx.exb (T : Tx w K mg) : mg "CUT_TILE" = some (.ref (He.ga K "CUT_TILE")) ∧ ∀ H, SqT K H (He.ga K "CUT_TILE") [.int 50000, .int 0, .int 1] := by
  obtain ⟨h, X, G, c⟩ := T.ex
  obtain ⟨h1, h2⟩ := He.ba c.more
  obtain ⟨h3, h4⟩ := He.ba h2
  exact ⟨He.glo_ok X G h1, fun H => tupAtB_ok h3 H⟩
theorem Tx.g_CUT_TILE (T : Tx w K mg) : mg "CUT_TILE" = some (.ref (He.ga K "CUT_TILE")) := T.exb.1
theorem ed_cutT {ρ : Rho} (T : Tx w K mg) : Ed (tC (.ref (He.ga K "CUT_TILE"))) ρ (tileD K 50000 0 1) := fun H σ e Q q => q _ H (Ex.refl H) ⟨_, _, rfl, T.exb.2 H, rfl, rfl, rfl, True.intro⟩
/-- the chain: n + 1 labels reach beyond, no fewer -/
def Beyond (S : Sty) (z t : Int) (e n : Nat) : Prop := (∀ i : Nat, i < n → gr S z e - 1 + (i : Int) * (br S z e e - 1) ≤ t) ∧ t < gr S z e - 1 + (n : Int) * (br S z e e - 1) ∧ n + 1 ≤ 30
def nameN (k : Nat) : Str := ⟨#[97 + k / 26, 97 + k % 26]⟩
def chainAt (S : Sty) (z : Int) (e m : Nat) (x y : Int) (i : Nat) : Lab := ⟨nameN (m - i), e, (S.row e).most, 0, x - gr S z e + 1 - (i : Int) * (br S z e e - 1), y⟩
def chainL (S : Sty) (z : Int) (e k m : Nat) (x y : Int) : List Lab := (List.range k).map (chainAt S z e m x y)
theorem chainL_next (S : Sty) (z : Int) (e k m : Nat) (x y : Int) : chainL S z e (k + 1) m x y = chainL S z e k m x y ++ [chainAt S z e m x y k] := by
  unfold chainL
  rw [List.range_succ, List.map_append]
  rfl
theorem chainL_len (S : Sty) (z : Int) (e k m : Nat) (x y : Int) : (chainL S z e k m x y).length = k := by simp [chainL]
/-- the place at the head of turn i -/
def placeAt (S : Sty) (z : Int) (e : Nat) (x : Int) (i : Nat) : Int := x - gr S z e + 1 - ((i - 1 : Nat) : Int) * (br S z e e - 1)
theorem placeAt_next (S : Sty) (z : Int) (e : Nat) (x : Int) (i : Nat) : placeAt S z e x (i + 1) = x - gr S z e + 1 - (i : Int) * (br S z e e - 1) := rfl
theorem placeAt_step (S : Sty) (z : Int) (e : Nat) (x : Int) {i : Nat} (h : 0 < i) : placeAt S z e x i - (br S z e e - 1) = x - gr S z e + 1 - (i : Int) * (br S z e e - 1) := by
  obtain ⟨j, rfl⟩ : ∃ j, i = j + 1 := ⟨i - 1, by omega⟩
  have hm : ((j + 1 : Nat) : Int) * (br S z e e - 1) = (j : Int) * (br S z e e - 1) + (br S z e e - 1) := by
    rw [Int.natCast_add, Int.add_mul]
    simp
  rw [hm]
  show x - gr S z e + 1 - (j : Int) * (br S z e e - 1) - (br S z e e - 1) = _
  omega
theorem lowers_len : (lowers : Str).length = 26 := by decide +kernel
theorem low_at (k : Nat) (h : k < 26) : atI (lowers.cps.toList) (k : Int) = some (97 + k) := by
  have e : ∀ j : Fin 26, lowers.cps.toList[j.val]? = some (97 + j.val) := by decide +kernel
  exact atI_in (by omega) (by rw [show ((k : Int)).toNat = k by omega]; exact e ⟨k, h⟩)
theorem ed_catS {ρ : Rho} {ta tb : TE} {i j : Str} (ha : Ed ta ρ (dS i)) (hb : Ed tb ρ (dS j)) (h : i.length + j.length ≤ 100000) : Ed (tOp (fun x y H Q => ∃ i j, x = .str i ∧ y = .str j ∧ i.length + j.length ≤ sizeLine ∧ Q (.str (i ++ j)) H) ta tb) ρ (dS (i ++ j)) := ed_op ha hb fun H u v p q Q k => ⟨i, j, p, q, sz_of h, k _ H (Ex.refl H) rfl⟩
def cutD3 (K : PySem.W.Frag) (S : Sty) (z : Int) (e n : Nat) : Dt := dTup K [dS "cut", tileD K 50000 0 1, labsD K S (chainL S z e (n + 1) (n + 1) 50000 0)]
/-- the same labels in order: by name, all of one class and weight -/
structure Ordd (S : Sty) (ls ls2 : List Lab) : Prop where
  few : ls.length ≤ 30
  rk : ∃ r, S.In r ∧ ∀ l ∈ ls, l.rank = r ∧ l.weight = 0
  pm : ls2.Perm ls
  lt : (ls2.map fun l => l.name.cps.toList).Pairwise (· < ·)
section
variable {ρ ρ' ρ1 ρb ρi ρb' ρi' : Rho} {ta tb tc : TE} {s1 s2 : TS} {k : Nat} {ds es ds' : List Dt} {x y d : Dt}
theorem sd_while {c : TT} (n : Nat) (st : Nat → Rho) (h0 : Wk ρ (st 0)) (hc : ∀ i, i < n → Td c (st i) true) (hb : ∀ i, i < n → Sd s1 (st i) (.nx (st (i + 1)))) (hn : Td c (st n) false) : Sd (tWhile c s1) ρ (.nx (st n)) := fun H σ D e q => by
  refine ⟨fun m σ2 H2 => ∃ i, m = n - i ∧ i ≤ n ∧ Ex H H2 ∧ EnvOk H2 (st i) σ2, ⟨_, 0, rfl, Nat.zero_le _, Ex.refl _, h0.ok e⟩, ?_⟩
  rintro m σ2 H2 ⟨i, rfl, hi, e2, en⟩
  by_cases hlt : i < n
  · refine hc i hlt H2 σ2 en _ fun H3 e3 => ?_
    rw [if_pos rfl]
    refine ⟨fun σ' H' => Ex H H' ∧ EnvOk H' (st (i + 1)) σ', fun σ' H' ⟨a, b⟩ => ⟨n - (i + 1), by omega, i + 1, rfl, hlt, a, b⟩, ?_⟩
    exact hb i hlt H3 σ2 _ (en.mono e3) fun σ' H' e' en' => ⟨(e2.trans e3).trans e', en'⟩
  · have ei : i = n := by omega
    subst ei
    refine hn H2 σ2 en _ fun H3 e3 => ?_
    rw [if_neg (by decide)]
    exact q σ2 H3 (e2.trans e3) (en.mono e3)
theorem s1_par {i j : Nat} (h : EdA (tCons ta (tCons tb tNil)) (env1 K k ds ρb ρi) [x, y]) (hx : Imm x) (hy : Imm y) (hi : i ≠ k := by decide) (hj : j ≠ k := by decide) : S1 K k (tPar i j (tCons ta (tCons tb tNil))) ds ρb ρi (.nx ds ((ρb.set i none).set j none) ((ρi.set i (some x)).set j (some y))) := fun B H σ D e q => h H σ e.env _ fun vs H1 e1 p => by
  obtain ⟨v, w, rfl, p1, p2⟩ := all2_2 p
  exact ⟨v, w, rfl, q _ H1 (((e.mono e1).setI p1 hx hi).setI p2 hy hj)⟩
theorem s1_is (h : S1 K k s1 ds ρb ρi (.nx ds' ρb' ρi')) {ds2 : List Dt} (e : ds' = ds2) : S1 K k s1 ds ρb ρi (.nx ds2 ρb' ρi') := e ▸ h
theorem wk_is {a b : Option Dt} (e : a = b) (h : Wk ρ ρ') : Wk (a :: ρ) (b :: ρ') := e ▸ wk_c h
theorem wdb_enumT {i : Nat} (h : ρb[i]? = some (some (dTup K es))) : WdB K (iEnumT K (tCons (tVar i) tNil)) k ds ρb ρi (numbered K es) := fun B H σ e R q => by
  obtain ⟨v, h1, p, us, a, b, c⟩ := e.eb.get h
  subst a
  refine ⟨_, h1, p, us, rfl, ex_t e.ex b, q _ H (Ex.refl H) (itok_of (walk_enumT (K := K) (a := p) (xs := us)) (by rw [numbered_len, c.len]) (fun H2 e2 => ex_t e2 b) fun i d H2 x H3 e2 hd y => ?_)⟩
  obtain ⟨e0, h0, rfl⟩ := numbered_at hd
  refine pair_ok (fun v hv => by cases hv; rfl) (fun v hv => ?_) y
  obtain ⟨w, hw, pw⟩ := (c.mono e2).get h0
  rw [hv] at hw
  cases hw
  exact pw
end

/-! Style.check_zoom -/
def R_Style_check_zoom (K : PySem.W.Frag) : List Dt → Prop := fun ds => ∃ S : Sty, ∃ z : Int, (0 ≤ z ∧ z ≤ S.last) ∧ ds = [dSty K S, dI z]
abbrev N_Style_check_zoom : List Str := ["self", "value"]
theorem sc_Style_check_zoom : FnScope N_Style_check_zoom ["self", "value"] (defScope s_Style_check_zoom) := ⟨rfl, rfl, rfl, by decide +kernel, rfl, by decide +kernel, by decide +kernel⟩
theorem fn_Style_check_zoom (T : Tx w K mg) : Mt0 P w K mg base 3 "Style" "check_zoom" ["self", "value"] (spP fun ds d => R_Style_check_zoom K ds ∧ d = dN) := by
  obtain ⟨fd, F⟩ := T.f_Style_check_zoom
  have nd := sc_Style_check_zoom.nd
  refine mk_mt T.me_Style_check_zoom (fn_pureN F sc_Style_check_zoom (by rintro _ ⟨S, z, c0, rfl⟩; rfl) (fun cdv A outer s H E hr => ?_)) (F.bindsN fun _ _ _ _ _ _ us hl => match us, hl with | [_, _], _ => rfl)
  have hu := hu_of hr
  have hu65 := hu65 hr
  refine ⟨_, (pss_one (ps_if (pt_not (pt_val (pe_callF (fn_is_between T) hr (pa_cons (pv 1) (pa_cons pe_int (pa_cons (pe_fldK K (pv 0)) pa_nil)))))) (pss_one ps_never) pss_nil)), ?_⟩
  rintro _ ⟨S, z, c0, rfl⟩
  exact ⟨_, sd_if (td_not (td_B (ed_call (eda_cons ed_var (eda_cons ed_c (eda_cons (ed_fld ed_var (fd_Style_own_last T)) eda_nil))) ⟨_, _, _, rfl, rfl⟩))) (fun hb => absurd hb (by rw [decide_eq_true c0.1, decide_eq_true c0.2]; decide)) (fun _ => sd_next)⟩

/-! check_strip -/
def R_check_strip (K : PySem.W.Frag) : List Dt → Prop := fun ds => ∃ t : Int, (0 ≤ t ∧ t ≤ 99999) ∧ ds = [dI t]
abbrev N_check_strip : List Str := ["value"]
theorem sc_check_strip : FnScope N_check_strip ["value"] (defScope s_check_strip) := ⟨rfl, rfl, rfl, by decide +kernel, rfl, by decide +kernel, by decide +kernel⟩
theorem fn_check_strip (T : Tx w K mg) : Fn0 P w K mg base 3 "check_strip" ["value"] (spP fun ds d => R_check_strip K ds ∧ d = dN) := by
  obtain ⟨fd, F⟩ := T.f_check_strip
  have nd := sc_check_strip.nd
  refine mk_fn T.g_check_strip F.kp (fn_pureN F sc_check_strip (by rintro _ ⟨t, c0, rfl⟩; rfl) (fun cdv A outer s H E hr => ?_)) (F.bindsN fun _ _ _ _ _ _ us hl => match us, hl with | [_], _ => rfl)
  have hu := hu_of hr
  have hu65 := hu65 hr
  refine ⟨_, (pss_one (ps_if (pt_not (pt_val (pe_callF (fn_is_between T) hr (pa_cons (pv 0) (pa_cons pe_int (pa_cons (pe_gint T.c_MOST_PLACE) pa_nil)))))) (pss_one ps_never) pss_nil)), ?_⟩
  rintro _ ⟨t, c0, rfl⟩
  exact ⟨_, sd_if (td_not (td_B (ed_call (eda_cons ed_var (eda_cons ed_c (eda_cons ed_c eda_nil))) ⟨_, _, _, rfl, rfl⟩))) (fun hb => absurd hb (by rw [decide_eq_true c0.1, decide_eq_true c0.2]; decide)) (fun _ => sd_next)⟩

/-! least_strip -/
def R_least_strip (K : PySem.W.Frag) : List Dt → Dt → Prop := fun ds d => ∃ S : Sty, ∃ z : Int, ∃ e : Nat, (S.Ok) ∧ (0 ≤ z ∧ z ≤ S.last) ∧ (firstOwn S z = some e) ∧ ds = [dSty K S, dI z] ∧ d = dTup K [dS "none", dS (S.row e).name]
abbrev N_least_strip : List Str := ["style", "zoom", "view", "rank", "most", "row"]
theorem sc_least_strip : FnScope N_least_strip ["style", "zoom"] (defScope s_least_strip) := ⟨rfl, rfl, rfl, by decide +kernel, rfl, by decide +kernel, by decide +kernel⟩
theorem fn_least_strip (T : Tx w K mg) : Fn0 P w K mg base 8 "least_strip" ["style", "zoom"] (spP (R_least_strip K)) := by
  obtain ⟨fd, F⟩ := T.f_least_strip
  have nd := sc_least_strip.nd
  refine mk_fn T.g_least_strip F.kp (fn_pure F sc_least_strip (by rintro _ _ ⟨S, z, e, c0, c1, c2, rfl, rfl⟩; rfl) (fun cdv A outer s H E hr => ?_)) (F.bindsN fun _ _ _ _ _ _ us hl => match us, hl with | [_, _], _ => rfl)
  have hu := hu_of hr
  have hu65 := hu65 hr
  refine ⟨_, (pss_cons (ps_expr (pe_methF (fn_Style_check_zoom T) T.cl_Style (hr.mono (by decide)) (pv 0) (pa_cons (pv 1) pa_nil))) (pss_cons (ps_set (i := 2) nd rfl (Or.inr rfl) (pe_makeF (fn_View_init T) (hr.mono (by decide)) (pa_cons (pv 0) (pa_cons (pv 1) pa_nil)))) (pss_cons (ps_set (i := 3) nd rfl (Or.inl rfl) (pe_callF (fn_endless T) hr (pa_cons (pv 2) pa_nil))) (pss_cons (ps_if (pt_cmp (pc_notN (pv 3))) (pss_one (ps_ret (pe_tup (pa_cons (pe_gstr T.c_NONE) (pa_cons (pe_fldK K (pe_ix (ixK_tup K) (pe_fldK K (pv 0)) (pv 3) (fun _ _ => rfl))) pa_nil))))) pss_nil) (pss_cons ps_never (pss_one ps_never)))))), ?_⟩
  rintro _ _ ⟨S, z, e, c0, c1, c2, rfl, rfl⟩
  refine sd_seq (sd_drop (ed_meth ed_var (md_Style T) (eda_cons ed_var eda_nil) ⟨⟨_, _, c1, rfl⟩, rfl⟩)) ?_
  refine sd_seq (sd_set (ed_view ed_var ed_var c0 c1)) ?_
  refine sd_seq (sd_set (ed_call (eda_cons ed_var eda_nil) ⟨_, _, _, c0, c2, rfl, rfl⟩)) ?_
  refine sd_ifR (td_B (ed_notSome ed_var (notN_V (by simp)))) (fun _ => ?_) (fun hb => absurd hb (by decide))
  exact sd_ret (ed_tup (eda_cons ed_c (eda_cons (ed_fld (ed_ixT (ed_fld ed_var (fd_Style_own_rows T)) ed_var (at_rows (firstOwn_in c2).1)) (fd_Row_own_name T)) eda_nil)) (by simp))

/-! row_beyond -/
def R_row_beyond (K : PySem.W.Frag) : List Dt → Dt → Prop := fun ds d => ∃ S : Sty, ∃ z : Int, ∃ t : Int, ∃ e : Nat, ∃ n : Nat, (S.Ok) ∧ (firstOwn S z = some e) ∧ (Beyond S z t e n) ∧ ds = [dVw K S z, dI t] ∧ d = dTup K (List.replicate (n + 1) (dI (e : Int)))
abbrev N_row_beyond : List Str := ["view", "strip", "rank", "row"]
theorem sc_row_beyond : FnScope N_row_beyond ["view", "strip"] (defScope s_row_beyond) := ⟨rfl, rfl, rfl, by decide +kernel, rfl, by decide +kernel, by decide +kernel⟩
theorem fn_row_beyond (T : Tx w K mg) : Fn0 P w K mg base 8 "row_beyond" ["view", "strip"] (spP (R_row_beyond K)) := by
  obtain ⟨fd, F⟩ := T.f_row_beyond
  have nd := sc_row_beyond.nd
  refine mk_fn T.g_row_beyond F.kp (fn_pure F sc_row_beyond (by rintro _ _ ⟨S, z, t, e, n, c0, c1, c2, rfl, rfl⟩; rfl) (fun cdv A outer s H E hr => ?_)) (F.bindsN fun _ _ _ _ _ _ us hl => match us, hl with | [_, _], _ => rfl)
  have hu := hu_of hr
  have hu65 := hu65 hr
  refine ⟨_, (pss_cons (ps_set (i := 2) nd rfl (Or.inl rfl) (pe_callF (fn_endless T) hr (pa_cons (pv 0) pa_nil))) (pss_cons (ps_if (pt_cmp (pc_isN (pv 2))) (pss_cons ps_never (pss_one ps_never)) pss_nil) (pss_cons (ps_set (i := 3) nd rfl (Or.inl rfl) (pe_tup (pa_cons (pv 2) pa_nil))) (pss_cons (ps_while PassesOwn.never (pt_cmpR op_le (pe_callF (fn_strip_of T) hr (pa_cons (pv 0) (pa_cons (pv 3) pa_nil))) (pv 1) (nomark _)) (pss_cons (ps_if (pt_cmpR op_eq (pe_bi (crK_len K) T.b_len (by decide +kernel) (pa_cons (pv 3) pa_nil)) (pe_gint T.c_MOST_LABELS) (nomark _)) (pss_one ps_never) pss_nil) (pss_one (ps_set (i := 3) nd rfl (Or.inl rfl) (pe_tup (pa_starK K (pv 3) (pa_cons (pv 2) pa_nil))))))) (pss_one (ps_ret (pv 3))))))), ?_⟩
  rintro _ _ ⟨S, z, t, e, n, c0, c1, c2, rfl, rfl⟩
  have hin := (firstOwn_in c1).1
  refine sd_seq (sd_set (ed_call (eda_cons ed_var eda_nil) ⟨_, _, _, c0, c1, rfl, rfl⟩)) ?_
  refine sd_ifR (td_B (ed_isSome ed_var (notN_V (by simp)))) (fun hb => absurd hb (by decide)) (fun _ => ?_)
  refine sd_seq (sd_set (ed_tup (K := K) (eda_cons ed_var eda_nil) (by simp))) ?_
  refine sd_seq (sd_while n (fun i => [some (dVw K S z), some (dI t), some (dI (e : Int)), some (dTup K (List.replicate (i + 1) (dI (e : Int))))]) (Wk.refl _) (fun i hi => ?_) (fun i hi => ?_) ?_) (sd_ret ed_var)
  · have := c2.1 i hi
    exact td_is (td_test (ed_le (ed_call (eda_cons ed_var (eda_cons ed_var eda_nil)) ⟨_, _, _, i, ⟨c0, hin⟩, by have := c2.2.2; omega, rfl, rfl⟩) ed_var)) (decide_eq_true this)
  · have h30 := c2.2.2
    refine sd_seq (sd_if (td_test (ed_eqI (ed_cb (eda_cons ed_var eda_nil) cd_lenT) ed_c)) (fun hb => ?_) (fun _ => sd_next)) (sd_set (ed_is (ed_tup (K := K) (eda_star ed_var (eda_cons ed_var eda_nil)) (by simp; omega)) ?_))
    · rw [List.length_replicate] at hb
      exact absurd (of_decide_eq_true hb) (by omega)
    · rw [← List.replicate_succ']
  · have := c2.2.1
    exact td_is (td_test (ed_le (ed_call (eda_cons ed_var (eda_cons ed_var eda_nil)) ⟨_, _, _, n, ⟨c0, hin⟩, c2.2.2, rfl, rfl⟩) ed_var)) (decide_eq_false (by omega))

/-! labels_of -/
def R_labels_of (K : PySem.W.Frag) : List Dt → Dt → Prop := fun ds d => ∃ S : Sty, ∃ z : Int, ∃ e : Nat, ∃ n : Nat, ∃ x : Int, ∃ y : Int, ∃ s : Int, (S.Ok) ∧ (S.In (e : Int)) ∧ (n + 1 ≤ 30) ∧ ds = [dVw K S z, dTup K (List.replicate (n + 1) (dI (e : Int))), tileD K x y s] ∧ d = labsD K S (chainL S z e (n + 1) (n + 1) x y)
abbrev N_labels_of : List Str := ["view", "row", "tile", "found", "place", "at", "rank", "one", "number", "name"]
theorem sc_labels_of : FnScope N_labels_of ["view", "row", "tile"] (defScope s_labels_of) := ⟨rfl, rfl, rfl, by decide +kernel, rfl, by decide +kernel, by decide +kernel⟩
theorem fn_labels_of (T : Tx w K mg) : Fn0 P w K mg base 6 "labels_of" ["view", "row", "tile"] (spP (R_labels_of K)) := by
  obtain ⟨fd, F⟩ := T.f_labels_of
  have nd := sc_labels_of.nd
  refine mk_fn T.g_labels_of F.kp (fn_pure F sc_labels_of (by rintro _ _ ⟨S, z, e, n, x, y, s, c0, c1, c2, rfl, rfl⟩; rfl) (fun cdv A outer s H E hr => ?_)) (F.bindsN fun _ _ _ _ _ _ us hl => match us, hl with | [_, _, _], _ => rfl)
  have hu := hu_of hr
  have hu65 := hu65 hr
  refine ⟨_, (pss_cons (ps_par (i := 3) (j := 4) (by rfl) nd rfl rfl (by decide) rfl rfl (pa_cons (pe_lst pa_nil) (pa_cons (pe_op op_add (pe_op op_sub (pe_ix (ixK_tup K) (pv 2) pe_int (fun _ _ => rfl)) (pe_methF (fn_View_greatest T) T.cl_View (hr.mono (by decide)) (pv 0) (pa_cons (pe_ix (ixK_tup K) (pv 1) pe_int (fun _ _ => rfl)) pa_nil))) pe_int) pa_nil)) (by rfl)) (pss_cons (ps_for PassesOwn.never rfl (pi_enumTK K T.b_enumerate (pa_cons (pv 1) pa_nil)) (pg_tupK K (n := 2) (pgs_cons (pg_name (i := 5) nd rfl (Or.inl rfl)) (pgs_cons (pg_name (i := 6) nd rfl (Or.inl rfl)) pgs_nil))) (pss_cons (ps_par (i := 7) (j := 8) (by rfl) nd rfl rfl (by decide) rfl rfl (pa_cons (pe_ix (ixK_tup K) (pe_fldK K (pe_fldK K (pv 0))) (pv 6) (fun _ _ => rfl)) (pa_cons (pe_op op_sub (pe_bi (crK_len K) T.b_len (by decide +kernel) (pa_cons (pv 1) pa_nil)) (pv 5)) pa_nil)) (by rfl)) (pss_cons (ps_if (pt_cmpR op_gt (pv 5) pe_int (nomark _)) (pss_one (ps_aug (i := 4) nd rfl (Or.inl rfl) (pe_callF (fn_stride_of T) hr (pa_cons (pv 0) (pa_cons (pe_ix (ixK_tup K) (pv 1) (pe_op op_sub (pv 5) pe_int) (fun _ _ => rfl)) (pa_cons (pv 6) pa_nil)))) ip_sub)) pss_nil) (pss_cons (ps_set (i := 9) nd rfl (Or.inl rfl) (pe_op op_add_str (pe_ix ix_str (pe_gstr T.c_LETTERS_tiles) (pe_op op_fdiv (pe_bt call_int1 T.b_int (by decide +kernel) (pa_cons (pv 8) pa_nil)) (pe_bi call_len_str T.b_len (by decide +kernel) (pa_cons (pe_gstr T.c_LETTERS_tiles) pa_nil))) (fun _ _ => rfl)) (pe_ix ix_str (pe_gstr T.c_LETTERS_tiles) (pe_op op_mod (pe_bt call_int1 T.b_int (by decide +kernel) (pa_cons (pv 8) pa_nil)) (pe_bi call_len_str T.b_len (by decide +kernel) (pa_cons (pe_gstr T.c_LETTERS_tiles) pa_nil))) (fun _ _ => rfl)))) (pss_one (ps_expr (pe_bm PySem.F.plainAttrs_list PySem.F.slot_list_append PySem.F.type_list_append mt_append (pv 3) (pa_cons (pe_tup (pa_cons (pv 9) (pa_cons (pe_fldK K (pv 7)) (pa_cons (pe_ix (ixK_tup K) (pe_fldK K (pv 7)) pe_int (fun _ _ => rfl)) (pa_cons pe_int (pa_cons (pv 4) (pa_cons (pe_ix (ixK_tup K) (pv 2) pe_int (fun _ _ => rfl)) pa_nil))))))) pa_nil)))))))) (pss_one (ps_ret (pe_bt (crK_tuple K) T.b_tuple (by decide +kernel) (pa_cons (pv 3) pa_nil)))))), ?_⟩
  rintro _ _ ⟨S, z, e, n, x, y, s, c0, c1, c2, rfl, rfl⟩
  have hnd : ∀ i : Nat, i < n + 1 → (List.replicate (n + 1) (dI (e : Int)))[i]? = some (dI (e : Int)) := fun i hi => by simp [hi]
  have hPl : ∀ i : Nat, i < n + 1 → List.map (labD K S) (chainL S z e (i + 1) (n + 1) x y) = List.map (labD K S) (chainL S z e i (n + 1) x y) ++ [labD K S (chainAt S z e (n + 1) x y i)] := fun i hi => by rw [chainL_next, List.map_append]; rfl
  refine sd_ownP (K := K) (ed_add (ed_sub (ed_ixT ed_var ed_c rfl) (ed_meth ed_var (md_View T) (eda_cons (ed_ixT ed_var ed_c (atI_in (by decide) rfl)) eda_nil) ⟨_, _, _, ⟨c0, c1⟩, rfl, rfl⟩)) ed_c) (imm_V _) ?_ (by show 3 < 10; decide) (by decide)
  refine s1_seq (s1_for (fun i => ((chainL S z e i (n + 1) x y).map (labD K S), [some (dVw K S z), some (dTup K (List.replicate (n + 1) (dI (e : Int)))), some (tileD K x y s), none, none, none, none, none, none, none], [none, none, none, none, some (dI (placeAt S z e x i)), none, none, none, none, none])) ?_ (wdb_enumT rfl) fun i d hd => ?_) (s1_ret ?_)
  · show _ = ([], _, _)
    unfold placeAt
    simp [chainL]
  · obtain ⟨d0, h0, rfl⟩ := numbered_at hd
    have hi : i < n + 1 := by have := (List.getElem?_eq_some_iff.mp h0).1; simpa using this
    rw [hnd i hi] at h0
    cases h0
    refine ⟨_, _, gdi_tup (gdis_cons (gdi_name (imm_V _)) (gdis_cons (gdi_name (imm_V _)) gdis_nil)), s1_wk (s1_seq (s1_par (eda_cons (ed_ixT (ed_fld (ed_fld ed_var (fd_View_own_style T)) (fd_Style_own_rows T)) ed_var (at_rows c1)) (eda_cons (ed_is (ed_sub (ed_cb (eda_cons ed_var eda_nil) cd_lenT) ed_var) (x' := dI ((n + 1 - i : Nat) : Int)) (by rw [List.length_replicate]; congr 2; omega)) eda_nil)) (imm_row K _) (imm_V _)) (s1_seq (s1_if (td_test (ed_gt ed_var ed_c)) (o := .nx ((chainL S z e i (n + 1) x y).map (labD K S)) [some (dVw K S z), some (dTup K (List.replicate (n + 1) (dI (e : Int)))), some (tileD K x y s), none, none, none, none, none, none, none] [none, none, none, none, some (dI (x - gr S z e + 1 - (i : Int) * (br S z e e - 1))), some (dI (i : Int)), some (dI (e : Int)), some (dRow K (S.row e)), some (dI ((n + 1 - i : Nat) : Int)), none]) (fun hb => ?_) (fun hb => ?_)) (s1_seq (s1_set (d := dS (nameN (n + 1 - i))) ?_ (imm_V _)) (s1_is (s1_app (d := labD K S (chainAt S z e (n + 1) x y i)) (ed_tup (eda_cons ed_var (eda_cons (ed_fld ed_var (fd_Row_own_name T)) (eda_cons (ed_ixT (ed_fld ed_var (fd_Row_own_letters T)) ed_c rfl) (eda_cons ed_c (eda_cons ed_var (eda_cons (ed_ixT ed_var ed_c rfl) eda_nil)))))) (by simp)) (imm_lab K S _) (by rw [List.length_map, chainL_len]; omega) ⟨by show 3 < 10; decide, by show 3 < 10; decide⟩) (hPl i hi).symm)))) (wk_c (wk_c (wk_c (wk_c (wk_c (wk_c (wk_c (wk_c (wk_c (wk_c wk_0)))))))))) (wk_c (wk_c (wk_c (wk_c (wk_is (by rw [placeAt_next]) (wk_n (wk_n (wk_n (wk_n (wk_n wk_0)))))))))) (fun d hd => ?_)⟩
    · have hi0 : 0 < i := by have := of_decide_eq_true hb; omega
      rw [← placeAt_step S z e x hi0]
      exact s1_aug (m := placeAt S z e x i) (n := br S z e e - 1) rfl (ed_call (eda_cons ed_var (eda_cons (ed_ixT ed_var (ed_sub ed_var ed_c) (atI_in (by omega) (by rw [show ((i : Int) - 1).toNat = i - 1 by omega]; exact hnd _ (by omega)))) (eda_cons ed_var eda_nil))) ⟨_, _, _, _, ⟨c0, c1⟩, c1, rfl, rfl⟩)
    · have hi0 : i = 0 := by have := of_decide_eq_false hb; omega
      subst hi0
      exact s1_next
    · have hl : ((26 : Nat) : Int) = 26 := rfl
      refine ed_is (ed_catS (ed_ixS ed_c (ed_is (ed_fdiv (ed_cb (eda_cons ed_var eda_nil) cd_int) (ed_is (ed_cb (eda_cons ed_c eda_nil) (cd_lenS (s := lowers) (by rw [lowers_len]; decide))) (x' := dI 26) (by rw [lowers_len]; rfl)) ⟨by decide, by decide⟩) (x' := dI (((n + 1 - i) / 26 : Nat) : Int)) rfl) (by rw [show ("abcdefghijklmnopqrstuvwxyz" : Str).length = 26 from lowers_len]; decide) (low_at _ (by omega)))
        (ed_ixS ed_c (ed_is (ed_mod (ed_cb (eda_cons ed_var eda_nil) cd_int) (ed_is (ed_cb (eda_cons ed_c eda_nil) (cd_lenS (s := lowers) (by rw [lowers_len]; decide))) (x' := dI 26) (by rw [lowers_len]; rfl)) (by decide)) (x' := dI (((n + 1 - i) % 26 : Nat) : Int)) rfl) (by rw [show ("abcdefghijklmnopqrstuvwxyz" : Str).length = 26 from lowers_len]; decide) (low_at _ (by omega))) (by show 1 + 1 ≤ 100000; decide)) ?_
      rfl
    · have hd' : d = dI (placeAt S z e x (i + 1)) := by simpa using hd
      rw [hd']
      exact @imm_V _
  · rw [numbered_len, List.length_replicate]
    exact ed_cb (eda_cons ed_var eda_nil) cd_tupL

/-! cut -/
def R_cut (K : PySem.W.Frag) : List Dt → Dt → Prop := fun ds d => ∃ S : Sty, ∃ z : Int, ∃ t : Int, ∃ e : Nat, ∃ n : Nat, (S.Ok) ∧ (0 ≤ z ∧ z ≤ S.last) ∧ (0 ≤ t ∧ t ≤ 99999) ∧ (firstOwn S z = some e) ∧ (Beyond S z t e n) ∧ ds = [dSty K S, dI z, dI t] ∧ d = cutD3 K S z e n
abbrev N_cut : List Str := ["style", "zoom", "strip", "view", "row"]
theorem sc_cut : FnScope N_cut ["style", "zoom", "strip"] (defScope s_cut) := ⟨rfl, rfl, rfl, by decide +kernel, rfl, by decide +kernel, by decide +kernel⟩
theorem fn_cut (T : Tx w K mg) : Fn0 P w K mg base 9 "cut" ["style", "zoom", "strip"] (spP (R_cut K)) := by
  obtain ⟨fd, F⟩ := T.f_cut
  have nd := sc_cut.nd
  refine mk_fn T.g_cut F.kp (fn_pure F sc_cut (by rintro _ _ ⟨S, z, t, e, n, c0, c1, c2, c3, c4, rfl, rfl⟩; rfl) (fun cdv A outer s H E hr => ?_)) (F.bindsN fun _ _ _ _ _ _ us hl => match us, hl with | [_, _, _], _ => rfl)
  have hu := hu_of hr
  have hu65 := hu65 hr
  refine ⟨_, (pss_cons (ps_expr (pe_methF (fn_Style_check_zoom T) T.cl_Style (hr.mono (by decide)) (pv 0) (pa_cons (pv 1) pa_nil))) (pss_cons (ps_expr (pe_callF (fn_check_strip T) (hr.mono (by decide)) (pa_cons (pv 2) pa_nil))) (pss_cons (ps_set (i := 3) nd rfl (Or.inl rfl) (pe_makeF (fn_View_init T) (hr.mono (by decide)) (pa_cons (pv 0) (pa_cons (pv 1) pa_nil)))) (pss_cons (ps_set (i := 4) nd rfl (Or.inl rfl) (pe_callF (fn_row_beyond T) hr (pa_cons (pv 3) (pa_cons (pv 2) pa_nil)))) (pss_cons (ps_if (pt_cmp (pc_isN (pv 4))) (pss_one ps_never) pss_nil) (pss_one (ps_ret (pe_tup (pa_cons (pe_gstr T.c_CUT) (pa_cons (pe_gref T.g_CUT_TILE) (pa_cons (pe_callF (fn_labels_of T) (hr.mono (by decide)) (pa_cons (pv 3) (pa_cons (pv 4) (pa_cons (pe_gref T.g_CUT_TILE) pa_nil)))) pa_nil))))))))))), ?_⟩
  rintro _ _ ⟨S, z, t, e, n, c0, c1, c2, c3, c4, rfl, rfl⟩
  refine sd_seq (sd_drop (ed_meth ed_var (md_Style T) (eda_cons ed_var eda_nil) ⟨⟨_, _, c1, rfl⟩, rfl⟩)) ?_
  refine sd_seq (sd_drop (ed_call (eda_cons ed_var eda_nil) ⟨⟨_, c2, rfl⟩, rfl⟩)) ?_
  refine sd_seq (sd_set (ed_view ed_var ed_var c0 c1)) ?_
  refine sd_seq (sd_set (ed_call (eda_cons ed_var (eda_cons ed_var eda_nil)) ⟨_, _, _, _, _, c0, c3, c4, rfl, rfl⟩)) ?_
  refine sd_ifR (td_B (ed_isSome ed_var notN_tup)) (fun hb => absurd hb (by decide)) (fun _ => sd_ret ?_)
  exact ed_tup (eda_cons ed_c (eda_cons (ed_cutT T) (eda_cons (ed_call (eda_cons ed_var (eda_cons ed_var (eda_cons (ed_cutT T) eda_nil))) ⟨_, _, _, _, _, _, _, c0, (firstOwn_in c3).1, c4.2.2, rfl, rfl⟩) eda_nil))) (by simp)

end
end Sl
namespace Sl
open PySem PySem.Spec PyProof.Rows L2 StX RZ
open Evl (Ex ex_l ex_t ex_rd sq_of st_of sz_of sz_lt fresh_back)
local macro_rules | `(tactic| walk_at "sd") => `(tactic| first | assumption | omega | decide | (constructor <;> assumption) | (constructor <;> omega))
section
variable {P : Program} {w : World} {K : PySem.W.Frag} {mg : Str → Option Value} {base : Heap}

/-! ### the law's lore -/
def clsD (K : PySem.W.Frag) (r : Row) : Dt := dTup K [dS r.name, dI r.first, dI r.least, dI r.most, tupI K r.sizes]
def farD (K : PySem.W.Frag) (p : (Int × Int) × Int) : Dt := dTup K [nTupI (pairI p.1), dI p.2]
def loreK (S : Sty) (lb lf lc : Addr) : List (Key × V) := [(Sum.inr "zooms", V.int (S.last + 1)), (Sum.inr "beside", V.ref lb), (Sum.inr "far", V.ref lf), (Sum.inr "classes", V.ref lc)]
def dLore (K : PySem.W.Frag) (S : Sty) : Dt := ⟨fun H v => ∃ a lb lf lc, v = .ref a ∧ H a = some (.dK (loreK S lb lf lc)) ∧ (dLst K (S.beside.map fun p => tupI K (pairI p))).P H (.ref lb) ∧ (dLst K (S.far.map (farD K))).P H (.ref lf) ∧ (dLst K (S.rows.map (clsD K))).P H (.ref lc),
  fun e ⟨a, lb, lf, lc, h1, h2, h3, h4, h5⟩ => ⟨a, lb, lf, lc, h1, e _ _ h2, Dt.mono _ e h3, Dt.mono _ e h4, Dt.mono _ e h5⟩⟩
theorem imm_cls (K : PySem.W.Frag) (r : Row) : Imm (clsD K r) := imm_tup fun d hd => by
  simp only [List.mem_cons, List.not_mem_nil, or_false] at hd
  rcases hd with rfl | rfl | rfl | rfl | rfl
  · exact @imm_V _
  · exact @imm_V _
  · exact @imm_V _
  · exact @imm_V _
  · exact imm_tupI K _
section
variable {ρ : Rho} {ta tb : TE} {S : Sty} {z i l : Int} {r : Row}
theorem ed_dgetR {te : TE} {x d : Dt} {s : Str} (h : Ed te ρ x) (hx : ∀ H v, x.P H v → ∃ a kvs u, v = .ref a ∧ H a = some (.dK kvs) ∧ valV kvs (Sum.inr s) = some u ∧ d.P H u) : Ed (tDGet te (tC (.str s))) ρ d := fun H σ e Q q =>
  h H σ e _ fun v H1 e1 p1 => by
    obtain ⟨a, kvs, u, h1, h2, h3, h4⟩ := hx H1 v p1
    exact ⟨a, u, h1, h3 ▸ DGet.k (k := Sum.inr s) h2, q u H1 e1 h4⟩
theorem ed_lz (h : Ed ta ρ (dLore K S)) : Ed (tDGet ta (tC (.str "zooms"))) ρ (dI (S.last + 1)) := ed_dgetR h fun H v ⟨a, lb, lf, lc, h1, h2, h3, h4, h5⟩ => ⟨a, _, V.int (S.last + 1), h1, h2, by kernel_rfl, rfl⟩
theorem ed_lb (h : Ed ta ρ (dLore K S)) : Ed (tDGet ta (tC (.str "beside"))) ρ (dLst K (S.beside.map fun p => tupI K (pairI p))) := ed_dgetR h fun H v ⟨a, lb, lf, lc, h1, h2, h3, h4, h5⟩ => ⟨a, _, V.ref lb, h1, h2, by kernel_rfl, h3⟩
theorem ed_lf (h : Ed ta ρ (dLore K S)) : Ed (tDGet ta (tC (.str "far"))) ρ (dLst K (S.far.map (farD K))) := ed_dgetR h fun H v ⟨a, lb, lf, lc, h1, h2, h3, h4, h5⟩ => ⟨a, _, V.ref lf, h1, h2, by kernel_rfl, h4⟩
theorem ed_lc_ (h : Ed ta ρ (dLore K S)) : Ed (tDGet ta (tC (.str "classes"))) ρ (dLst K (S.rows.map (clsD K))) := ed_dgetR h fun H v ⟨a, lb, lf, lc, h1, h2, h3, h4, h5⟩ => ⟨a, _, V.ref lc, h1, h2, by kernel_rfl, h5⟩
def thereB (r : Row) (z : Int) : Bool := decide (r.first ≤ z) && decide (z < r.first + (r.sizes.length : Int))
theorem there_iff : thereB r z = true ↔ 0 ≤ z - r.first ∧ z - r.first < (r.sizes.length : Int) := by
  unfold thereB
  rw [Bool.and_eq_true, decide_eq_true_iff, decide_eq_true_iff]
  omega
theorem px_at (h : S.Ok) (hz : 0 ≤ z ∧ z ≤ S.last) : atI [dI 1, dI 2, dI 4, dI 8, dI 16] (S.last + 1 - 1 - z) = some (dI (px S z)) := by
  have h4 := h.z4
  unfold px
  obtain ⟨n, hn⟩ : ∃ n : Nat, S.last - z = (n : Int) := ⟨(S.last - z).toNat, by omega⟩
  have hn4 : n ≤ 4 := by omega
  rw [show S.last + 1 - 1 - z = (n : Int) by omega, hn]
  rcases n with _ | _ | _ | _ | _ | n
  · rfl
  · rfl
  · rfl
  · rfl
  · rfl
  · omega
theorem at_cls (h : S.In i) : atI (S.rows.map (clsD K)) i = some (clsD K (S.row i)) := atI_in h.1 (by rw [List.getElem?_map, h.get]; rfl)
theorem at_size (h : thereB (S.row i) z = true) : atI ((S.row i).sizes.map fun n => dI n) (z - (S.row i).first) = some (dI (sz S z i)) := by
  obtain ⟨h1, h2⟩ := there_iff.mp h
  refine atI_in h1 ?_
  have hl : (z - (S.row i).first).toNat < (S.row i).sizes.length := by omega
  unfold sz Row.at
  rw [if_pos ⟨h1, h2⟩, List.getElem?_map, List.getElem?_eq_getElem hl, List.getD_eq_getElem?_getD, List.getElem?_eq_getElem hl]
  rfl
theorem cmul_ls {m : Int} (h : S.Ok) (hi : S.In i) (hl : 0 ≤ l ∧ l ≤ 100) : CMul (l * sz S z i) m := by
  have h1 := sz_bd (z := z) h hi
  have h2 : l * sz S z i ≤ 100 * 9 := by
    have : l * sz S z i ≤ l * 9 := Int.mul_le_mul_of_nonneg_left h1.2 hl.1
    omega
  have h3 : 0 ≤ l * sz S z i := Int.mul_nonneg hl.1 h1.1
  exact .inl ⟨by omega, by omega⟩
def shownT (S : Sty) (z : Int) : List Nat := (List.range S.rows.length).filter fun k => thereB (S.row (k : Int)) z
end

/-! _law_is_there -/
def R_law_is_there (K : PySem.W.Frag) : List Dt → Dt → Prop := fun ds d => ∃ r : Row, ∃ z : Int, ds = [clsD K r, dI z] ∧ d = dB (thereB r z)
abbrev N_law_is_there : List Str := ["_law_one", "_law_zoom"]
theorem sc_law_is_there : FnScope N_law_is_there ["_law_one", "_law_zoom"] (defScope s_law_is_there) := ⟨rfl, rfl, rfl, by decide +kernel, rfl, by decide +kernel, by decide +kernel⟩
theorem fn_law_is_there (T : Tx w K mg) : Fn0 P w K mg base 1 "_law_is_there" ["_law_one", "_law_zoom"] (spP (R_law_is_there K)) := by
  obtain ⟨fd, F⟩ := T.f_law_is_there
  have nd := sc_law_is_there.nd
  refine mk_fn T.g_law_is_there F.kp (fn_pure F sc_law_is_there (by rintro _ _ ⟨r, z, rfl, rfl⟩; rfl) (fun cdv A outer s H E hr => ?_)) (F.bindsN fun _ _ _ _ _ _ us hl => match us, hl with | [_, _], _ => rfl)
  have hu := hu_of hr
  have hu65 := hu65 hr
  refine ⟨_, (pss_one (ps_ret (pe_chain op_le op_lt (pe_ix (ixK_tup K) (pv 0) pe_int (fun _ _ => rfl)) (pv 1) (pe_op op_add (pe_ix (ixK_tup K) (pv 0) pe_int (fun _ _ => rfl)) (pe_bi (crK_len K) T.b_len (by decide +kernel) (pa_cons (pe_ix (ixK_tup K) (pv 0) pe_int (fun _ _ => rfl)) pa_nil))) rfl))), ?_⟩
  rintro _ _ ⟨r, z, rfl, rfl⟩
  exact sd_ret (ed_chain (ed_ixT ed_var ed_c rfl) ed_var (ed_is (ed_add (ed_ixT ed_var ed_c rfl) (ed_cb (eda_cons (ed_ixT ed_var ed_c rfl) eda_nil) cd_lenT)) (by rw [List.length_map])))

/-! _law_pixel -/
def R_law_pixel (K : PySem.W.Frag) : List Dt → Dt → Prop := fun ds d => ∃ S : Sty, ∃ z : Int, (S.Ok) ∧ (0 ≤ z ∧ z ≤ S.last) ∧ ds = [dLore K S, dI z] ∧ d = dI (px S z)
abbrev N_law_pixel : List Str := ["_law_lore_here", "_law_zoom"]
theorem sc_law_pixel : FnScope N_law_pixel ["_law_lore_here", "_law_zoom"] (defScope s_law_pixel) := ⟨rfl, rfl, rfl, by decide +kernel, rfl, by decide +kernel, by decide +kernel⟩
theorem fn_law_pixel (T : Tx w K mg) : Fn0 P w K mg base 1 "_law_pixel" ["_law_lore_here", "_law_zoom"] (spP (R_law_pixel K)) := by
  obtain ⟨fd, F⟩ := T.f_law_pixel
  have nd := sc_law_pixel.nd
  refine mk_fn T.g_law_pixel F.kp (fn_pure F sc_law_pixel (by rintro _ _ ⟨S, z, c0, c1, rfl, rfl⟩; rfl) (fun cdv A outer s H E hr => ?_)) (F.bindsN fun _ _ _ _ _ _ us hl => match us, hl with | [_, _], _ => rfl)
  have hu := hu_of hr
  have hu65 := hu65 hr
  refine ⟨_, (pss_one (ps_ret (pe_ix (ixK_list K) (pe_lst (pa_cons pe_int (pa_cons pe_int (pa_cons pe_int (pa_cons pe_int (pa_cons pe_int pa_nil)))))) (pe_op op_sub (pe_op op_sub (pe_dgetF hu (pv 0) pe_str (fun _ _ => rfl)) pe_int) (pv 1)) (fun _ _ => rfl)))), ?_⟩
  rintro _ _ ⟨S, z, c0, c1, rfl, rfl⟩
  refine sd_ret (ed_ixL (K := K) (ed_lst (eda_cons ed_c (eda_cons ed_c (eda_cons ed_c (eda_cons ed_c (eda_cons ed_c eda_nil))))) (by simp)) (ed_sub (ed_sub (ed_lz ed_var) ed_c) ed_var) ?_)
  exact px_at c0 c1

/-! _law_half -/
def R_law_half (K : PySem.W.Frag) : List Dt → Dt → Prop := fun ds d => ∃ S : Sty, ∃ z : Int, ∃ i : Int, ∃ l : Int, (S.Ok) ∧ (0 ≤ z ∧ z ≤ S.last) ∧ (S.In i) ∧ (thereB (S.row i) z = true) ∧ (0 ≤ l ∧ l ≤ 100) ∧ ds = [dLore K S, dI i, dI l, dI z] ∧ d = dI (hw S z i l)
abbrev N_law_half : List Str := ["_law_lore_here", "_law_i", "_law_letters", "_law_zoom", "_law_one"]
theorem sc_law_half : FnScope N_law_half ["_law_lore_here", "_law_i", "_law_letters", "_law_zoom"] (defScope s_law_half) := ⟨rfl, rfl, rfl, by decide +kernel, rfl, by decide +kernel, by decide +kernel⟩
theorem fn_law_half (T : Tx w K mg) : Fn0 P w K mg base 2 "_law_half" ["_law_lore_here", "_law_i", "_law_letters", "_law_zoom"] (spP (R_law_half K)) := by
  obtain ⟨fd, F⟩ := T.f_law_half
  have nd := sc_law_half.nd
  refine mk_fn T.g_law_half F.kp (fn_pure F sc_law_half (by rintro _ _ ⟨S, z, i, l, c0, c1, c2, c3, c4, rfl, rfl⟩; rfl) (fun cdv A outer s H E hr => ?_)) (F.bindsN fun _ _ _ _ _ _ us hl => match us, hl with | [_, _, _, _], _ => rfl)
  have hu := hu_of hr
  have hu65 := hu65 hr
  refine ⟨_, (pss_cons (ps_set (i := 4) nd rfl (Or.inl rfl) (pe_ix (ixK_list K) (pe_dgetF hu (pv 0) pe_str (fun _ _ => rfl)) (pv 1) (fun _ _ => rfl))) (pss_one (ps_ret (pe_op op_mul (pe_op op_mul (pv 2) (pe_ix (ixK_tup K) (pe_ix (ixK_tup K) (pv 4) pe_int (fun _ _ => rfl)) (pe_op op_sub (pv 3) (pe_ix (ixK_tup K) (pv 4) pe_int (fun _ _ => rfl))) (fun _ _ => rfl))) (pe_callF (fn_law_pixel T) hr (pa_cons (pv 0) (pa_cons (pv 3) pa_nil))))))), ?_⟩
  rintro _ _ ⟨S, z, i, l, c0, c1, c2, c3, c4, rfl, rfl⟩
  refine sd_seq (sd_set (ed_ixL (ed_lc_ ed_var) ed_var (at_cls c2))) (sd_ret (ed_is (ed_mul (ed_mul ed_var (ed_ixT (ed_ixT ed_var ed_c rfl) (ed_sub ed_var (ed_ixT ed_var ed_c rfl)) (at_size c3)) (cmul_s c4)) (ed_call (eda_cons ed_var (eda_cons ed_var eda_nil)) ⟨_, _, c0, c1, rfl, rfl⟩) (cmul_ls c0 c2 c4)) ?_))
  unfold hw hh sz
  rw [Int.mul_assoc]

/-! _law_pair -/
def R_law_pair (K : PySem.W.Frag) : List Dt → Dt → Prop := fun ds d => ∃ i : Int, ∃ j : Int, ds = [dI i, dI j] ∧ d = nTupI (pairI (rp i j))
abbrev N_law_pair : List Str := ["_law_i", "_law_j"]
theorem sc_law_pair : FnScope N_law_pair ["_law_i", "_law_j"] (defScope s_law_pair) := ⟨rfl, rfl, rfl, by decide +kernel, rfl, by decide +kernel, by decide +kernel⟩
theorem fn_law_pair (T : Tx w K mg) : Fn0 P w K mg base 1 "_law_pair" ["_law_i", "_law_j"] (spP (R_law_pair K)) := by
  obtain ⟨fd, F⟩ := T.f_law_pair
  have nd := sc_law_pair.nd
  refine mk_fn T.g_law_pair F.kp (fn_pure F sc_law_pair (by rintro _ _ ⟨i, j, rfl, rfl⟩; rfl) (fun cdv A outer s H E hr => ?_)) (F.bindsN fun _ _ _ _ _ _ us hl => match us, hl with | [_, _], _ => rfl)
  have hu := hu_of hr
  have hu65 := hu65 hr
  refine ⟨_, (pss_one (ps_ret (pe_ifExp (pt_cmpR op_le (pv 0) (pv 1) (nomark _)) (pe_tup (pa_cons (pv 0) (pa_cons (pv 1) pa_nil))) (pe_tup (pa_cons (pv 1) (pa_cons (pv 0) pa_nil)))))), ?_⟩
  rintro _ _ ⟨i, j, rfl, rfl⟩
  refine sd_ret (ed_if (td_test (ed_le ed_var ed_var)) (fun hb => ?_) fun hb => ?_)
  · refine ed_is (ed_tupN (eda_cons ed_var (eda_cons ed_var eda_nil)) (by simp)) ?_
    unfold rp
    rw [if_pos (of_decide_eq_true hb)]
    rfl
  · refine ed_is (ed_tupN (eda_cons ed_var (eda_cons ed_var eda_nil)) (by simp)) ?_
    unfold rp
    rw [if_neg (of_decide_eq_false hb)]
    rfl

/-! _law_apart -/
def R_law_apart (K : PySem.W.Frag) : List Dt → Dt → Prop := fun ds d => ∃ S : Sty, ∃ a : Lab, ∃ b : Lab, ds = [labD K S a, labD K S b] ∧ d = dTup K [dI (iabs (a.x - b.x)), dI (iabs (a.y - b.y))]
abbrev N_law_apart : List Str := ["_law_one", "_law_other"]
theorem sc_law_apart : FnScope N_law_apart ["_law_one", "_law_other"] (defScope s_law_apart) := ⟨rfl, rfl, rfl, by decide +kernel, rfl, by decide +kernel, by decide +kernel⟩
theorem fn_law_apart (T : Tx w K mg) : Fn0 P w K mg base 1 "_law_apart" ["_law_one", "_law_other"] (spP (R_law_apart K)) := by
  obtain ⟨fd, F⟩ := T.f_law_apart
  have nd := sc_law_apart.nd
  refine mk_fn T.g_law_apart F.kp (fn_pure F sc_law_apart (by rintro _ _ ⟨S, a, b, rfl, rfl⟩; rfl) (fun cdv A outer s H E hr => ?_)) (F.bindsN fun _ _ _ _ _ _ us hl => match us, hl with | [_, _], _ => rfl)
  have hu := hu_of hr
  have hu65 := hu65 hr
  refine ⟨_, (pss_one (ps_ret (pe_tup (pa_cons (pe_bt call_int1 T.b_int (by decide +kernel) (pa_cons (pe_bi call_abs T.b_abs (by decide +kernel) (pa_cons (pe_op op_sub (pe_ix (ixK_tup K) (pv 0) pe_int (fun _ _ => rfl)) (pe_ix (ixK_tup K) (pv 1) pe_int (fun _ _ => rfl))) pa_nil)) pa_nil)) (pa_cons (pe_bt call_int1 T.b_int (by decide +kernel) (pa_cons (pe_bi call_abs T.b_abs (by decide +kernel) (pa_cons (pe_op op_sub (pe_ix (ixK_tup K) (pv 0) pe_int (fun _ _ => rfl)) (pe_ix (ixK_tup K) (pv 1) pe_int (fun _ _ => rfl))) pa_nil)) pa_nil)) pa_nil))))), ?_⟩
  rintro _ _ ⟨S, a, b, rfl, rfl⟩
  exact sd_ret (ed_tup (eda_cons (ed_cb (eda_cons (ed_cb (eda_cons (ed_sub (ed_ixT ed_var ed_c rfl) (ed_ixT ed_var ed_c rfl)) eda_nil) cd_abs) eda_nil) cd_int) (eda_cons (ed_cb (eda_cons (ed_cb (eda_cons (ed_sub (ed_ixT ed_var ed_c rfl) (ed_ixT ed_var ed_c rfl)) eda_nil) cd_abs) eda_nil) cd_int) eda_nil)) (by simp))

/-! _law_widest -/
def R_law_widest (K : PySem.W.Frag) : List Dt → Dt → Prop := fun ds d => ∃ S : Sty, ∃ z : Int, ∃ i : Int, (S.Ok) ∧ (0 ≤ z ∧ z ≤ S.last) ∧ (S.In i) ∧ (thereB (S.row i) z = true) ∧ ds = [dLore K S, dI i, dI z] ∧ d = dI (gr S z i)
abbrev N_law_widest : List Str := ["_law_lore_here", "_law_i", "_law_zoom"]
theorem sc_law_widest : FnScope N_law_widest ["_law_lore_here", "_law_i", "_law_zoom"] (defScope s_law_widest) := ⟨rfl, rfl, rfl, by decide +kernel, rfl, by decide +kernel, by decide +kernel⟩
theorem fn_law_widest (T : Tx w K mg) : Fn0 P w K mg base 3 "_law_widest" ["_law_lore_here", "_law_i", "_law_zoom"] (spP (R_law_widest K)) := by
  obtain ⟨fd, F⟩ := T.f_law_widest
  have nd := sc_law_widest.nd
  refine mk_fn T.g_law_widest F.kp (fn_pure F sc_law_widest (by rintro _ _ ⟨S, z, i, c0, c1, c2, c3, rfl, rfl⟩; rfl) (fun cdv A outer s H E hr => ?_)) (F.bindsN fun _ _ _ _ _ _ us hl => match us, hl with | [_, _, _], _ => rfl)
  have hu := hu_of hr
  have hu65 := hu65 hr
  refine ⟨_, (pss_one (ps_ret (pe_callF (fn_law_half T) hr (pa_cons (pv 0) (pa_cons (pv 1) (pa_cons (pe_ix (ixK_tup K) (pe_ix (ixK_list K) (pe_dgetF hu (pv 0) pe_str (fun _ _ => rfl)) (pv 1) (fun _ _ => rfl)) pe_int (fun _ _ => rfl)) (pa_cons (pv 2) pa_nil))))))), ?_⟩
  rintro _ _ ⟨S, z, i, c0, c1, c2, c3, rfl, rfl⟩
  exact sd_ret (ed_call (eda_cons ed_var (eda_cons ed_var (eda_cons (ed_ixT (ed_ixL (ed_lc_ ed_var) ed_var (at_cls c2)) ed_c rfl) (eda_cons ed_var eda_nil)))) ⟨_, _, _, _, c0, c1, c2, c3, most_bd c0 c2, rfl, rfl⟩)

/-! _law_by -/
def R_law_by (K : PySem.W.Frag) : List Dt → Dt → Prop := fun ds d => ∃ S : Sty, ∃ l : Lab, ∃ x : Int, ∃ y : Int, ∃ s : Int, ∃ t : Int, ds = [labD K S l, tileD K x y s, dI t] ∧ d = dB (liesL l x y s t)
abbrev N_law_by : List Str := ["_law_label", "_law_tile", "_law_strip", "_law_x", "_law_y", "_law_side"]
theorem sc_law_by : FnScope N_law_by ["_law_label", "_law_tile", "_law_strip"] (defScope s_law_by) := ⟨rfl, rfl, rfl, by decide +kernel, rfl, by decide +kernel, by decide +kernel⟩
theorem fn_law_by (T : Tx w K mg) : Fn0 P w K mg base 1 "_law_by" ["_law_label", "_law_tile", "_law_strip"] (spP (R_law_by K)) := by
  obtain ⟨fd, F⟩ := T.f_law_by
  have nd := sc_law_by.nd
  refine mk_fn T.g_law_by F.kp (fn_pure F sc_law_by (by rintro _ _ ⟨S, l, x, y, s, t, rfl, rfl⟩; rfl) (fun cdv A outer s H E hr => ?_)) (F.bindsN fun _ _ _ _ _ _ us hl => match us, hl with | [_, _, _], _ => rfl)
  have hu := hu_of hr
  have hu65 := hu65 hr
  refine ⟨_, (pss_cons (ps_asg (pv 1) (pg_tupK K (n := 3) (pgs_cons (pg_name (i := 3) nd rfl (Or.inl rfl)) (pgs_cons (pg_name (i := 4) nd rfl (Or.inl rfl)) (pgs_cons (pg_name (i := 5) nd rfl (Or.inl rfl)) pgs_nil))))) (pss_one (ps_ret (pe_and (pe_chain op_le op_le (pe_op op_sub (pv 3) (pv 2)) (pe_ix (ixK_tup K) (pv 0) pe_int (fun _ _ => rfl)) (pe_op op_add (pe_op op_add (pv 3) (pv 5)) (pv 2)) rfl) (pe_one (pe_chain op_le op_le (pe_op op_sub (pv 4) (pv 2)) (pe_ix (ixK_tup K) (pv 0) pe_int (fun _ _ => rfl)) (pe_op op_add (pe_op op_add (pv 4) (pv 5)) (pv 2)) rfl)))))), ?_⟩
  rintro _ _ ⟨S, l, x, y, s, t, rfl, rfl⟩
  refine sd_seq (sd_asg ed_var (gd_tup (gds_cons gd_name (gds_cons gd_name (gds_cons gd_name gds_nil)))))
      (sd_ret (ed_andV (ed_chain (ed_sub ed_var ed_var) (ed_ixT ed_var ed_c rfl) (ed_add (ed_add ed_var ed_var) ed_var)) fun _ => (ed_chain (ed_sub ed_var ed_var) (ed_ixT ed_var ed_c rfl) (ed_add (ed_add ed_var ed_var) ed_var))))

end
end Sl
/-! SlSet: set(list) of texts, of tuples; sorted(set). -/
namespace Sl
open PySem PySem.Spec PyProof.Rows L2
abbrev freshSet (w : World) : Obj := { cls := .type "set", dict := none, data := .set #[] 0 (.fresh 0 0 (!w.params.followText "set-order")) }
section
variable {P : Program} {w : World} {A : Around} {E : Value → Shared → Prop} {s : Shared}
/-- the loop: Rel i h: S holds the first i items -/
theorem set_loopG {I S : Addr} {fp wr : List Addr} {n : Nat} {Pv : Nat → Value → Prop} {St : Nat → Heap → Prop} {R : Result → Shared → Prop} (W : Walks P w A.in1 I fp wr n Pv St) (hSf : S ∉ fp) (Rel : Nat → Heap → Prop)
    (hkeep : ∀ i h h', Rel i h → (∀ b o, b ∉ wr → h.get? b = some o → h'.get? b = some o) → Rel i h')
    (hstep : ∀ (i : Nat) (v : Value) (s : Shared) (Q : Shared → Prop) (E : Value → Shared → Prop), i < n → Pv i v → Rel i s.heap → (∀ h' tk, Heap.SameBut S s.heap h' → Rel (i + 1) h' → Q { s with heap := h', toks := tk }) → wpAny (model P w) A.in1 (setAdd S v) (fun _ s' => Q s') E s) :
    ∀ (k i : Nat) (s : Shared), n - i = k → i ≤ n → St i s.heap → Rel i s.heap → (∀ h' tk, Rel n h' → (∀ b o, b ∉ S :: wr → s.heap.get? b = some o → h'.get? b = some o) → R (.ok (.ret .none)) { s with heap := h', toks := tk }) →
      codeAny (model P w) A (.builtin "set.update.loop" ⟨[.ref S, .ref I], []⟩) R s := by
  have hSw : S ∉ wr := fun h => hSf (W.sub _ h)
  intro k
  induction k with
  | zero =>
    intro i s hk hi st r hR
    obtain rfl : i = n := by omega
    refine codeAny_builtin PyProof.Rows.F.entry_set_update_loop ?_
    rw [Around.under_plainId PyProof.Rows.F.plain_set_update_loop _]
    show wpAny _ A.in1 (pyNext (.ref I) >>= _) _ _ s
    exact wpAny_bind (W.done s _ _ st fun h' tk kp => wpAny_pure (hR h' tk (hkeep _ _ _ r kp) fun b o hb e => kp b o (fun z => hb (List.mem_cons_of_mem _ z)) e))
  | succ k ih =>
    intro i s hk hi st r hR
    have hlt : i < n := by omega
    refine codeAny_builtin PyProof.Rows.F.entry_set_update_loop ?_
    rw [Around.under_plainId PyProof.Rows.F.plain_set_update_loop _]
    show wpAny _ A.in1 (pyNext (.ref I) >>= _) _ _ s
    refine wpAny_bind (W.item i s _ _ hlt st fun v h1 t1 hv st1 k1 => ?_)
    show wpAny _ A.in1 (holding [v] (setAdd S v) >>= _) _ _ _
    refine wpAny_bind (wpAny_holding (hstep i v { s with heap := h1, toks := t1 } _ _ hlt hv (hkeep _ _ _ r k1) fun h2 t2 sb r2 => wpAny_pure ⟨plainId_quiet PyProof.Rows.F.plain_set_update_loop _, ih (i + 1) _ (by omega) hlt (W.frame _ _ _ st1 fun b hb o e => ?_) r2 fun h3 t3 r3 k3 => hR h3 t3 r3 fun b o hb e => ?_⟩))
    · exact (sb.2 b fun z => hSf (z ▸ hb)).trans e
    · exact k3 b o hb ((sb.2 b fun z => hb (z ▸ List.mem_cons_self)).trans (k1 b o (fun z => hb (List.mem_cons_of_mem _ z)) e))
/-- set(xs): a new set at the heap's end, filled item by item -/
theorem call_setG {l : Addr} {items : Array Value} {Q : Value → Shared → Prop} (hh : A.handled = none) (hl : s.heap.IsList l items) (Rel : Nat → Heap → Prop)
    (h0 : ∀ h', (∀ b o, s.heap.get? b = some o → h'.get? b = some o) → h'.get? s.heap.objs.size = some (freshSet w) → Rel 0 h')
    (hkeep : ∀ i h h', Rel i h → (∀ b o, b ∉ [s.heap.objs.size + 1] → h.get? b = some o → h'.get? b = some o) → Rel i h')
    (hstep : ∀ (A' : Around) (i : Nat) (v : Value) (s' : Shared) (Q : Shared → Prop) (E : Value → Shared → Prop), A'.units ≤ A.units + 8 → i < items.size → items[i]? = some v → Rel i s'.heap →
      (∀ h' tk, Heap.SameBut s.heap.objs.size s'.heap h' → Rel (i + 1) h' → Q { s' with heap := h', toks := tk }) → wpAny (model P w) A' (setAdd s.heap.objs.size v) (fun _ s' => Q s') E s')
    (h : ∀ (h' : Heap) (tk : Nat), Rel items.size h' → (∀ b o, s.heap.get? b = some o → h'.get? b = some o) → Q (.ref s.heap.objs.size) { s with heap := h', toks := tk }) :
    wpAny (model P w) A (call (.type "set") [.ref l]) Q E s := by
  obtain ⟨c, tl, hmro⟩ := PySem.F.called_set.mro
  have hmade := PySem.F.called_set.made
  have hsub := PySem.F.called_set.sub
  have h1 := PySem.F.called_set.notType
  have h2 := PySem.F.called_set.canCreate
  have hct := PySem.F.typeCall_set_1 (.ref l)
  refine wpAny_call (codeAny_of_tree (show wpAny _ _ (callAny (.type "set") _) _ _ _ from wpAny_pure ⟨Code.quiet_builtin _ (by decide +kernel), codeAny_builtin PySem.F.entry_type_call ?_⟩))
  rw [Around.under_plain (weight_type_call_type "set" [.ref l] []) rfl]
  repeat (any_goals (first | assumption | wp_step))
  refine codeAny_mono (code_set_led1 (.ref l) (E := E) (Q₁ := fun obj s₁ => obj = .ref s.heap.objs.size ∧ s₁ = { s with heap := s.heap.push (freshSet w) }) ⟨rfl, rfl⟩) fun r s₁ hr => ?_
  match r, hr with
  | .error e, hr => exact hr
  | .ok (.ret obj), hr =>
    obtain ⟨rfl, rfl⟩ := hr
    have hS : (s.heap.push (freshSet w)).get? s.heap.objs.size = some (freshSet w) := Heap.get?_push_size _ rfl
    have hT : Shared.TypeIs { s with heap := s.heap.push (freshSet w) } (.ref s.heap.objs.size) "set" := ⟨_, hS, rfl⟩
    have hli := PySem.F.called_set.init.lookup
    have hbi := PySem.F.called_set.init.bind (.ref s.heap.objs.size)
    repeat (any_goals (first | assumption | wp_step))
    refine codeAny_mono (codeAny_call_builtin (R := wants (fun r s₂ => r = .none ∧ ∃ h' tk, s₂ = { s with heap := h', toks := tk } ∧ Rel items.size h' ∧ ∀ b o, s.heap.get? b = some o → h'.get? b = some o) E) PySem.F.called_set.init.plain PySem.F.entry_set_init (check_set_init_1 hT ?_)) fun r₂ s₂ hr₂ => ?_
    · obtain ⟨⟨ocls, odict, odata, oslots⟩, hol, hcl, nl, hdl⟩ := hl
      dsimp only at hcl hdl
      subst hcl hdl
      have hol' := Heap.get?_push_of_some (h := s.heap) (freshSet w) hol
      have hsls := PySem.F.sub_list_set
      have hslf := PySem.F.sub_list_frozenset
      have hne : (Value.type "list" == Value.type "dict") = false := by decide
      have hl1 : (s.heap.push (freshSet w)).IsList l items := ⟨_, hol', rfl, nl, rfl⟩
      have hlS : l < s.heap.objs.size := Heap.lt_size hol
      have sz : (s.heap.push (freshSet w)).objs.size = s.heap.objs.size + 1 := Heap.size_push ..
      unfold Builtin.«set.__init__» noKeywords Builtin.Frozenset.updateFrom
      generalize hPI : pyIter = PI
      wp_walk
      subst hPI
      refine wpAny_pyIter_list hl1 (wpAny_bind (wpAny_runValue ?_))
      have k2 : ∀ b o, s.heap.get? b = some o → ((s.heap.push (freshSet w)).push { cls := .type "list_iterator", data := .fields #[.ref l, .int 0 0] }).get? b = some o := fun b o e => Heap.get?_push_of_some _ (Heap.get?_push_of_some _ e)
      refine set_loopG (Walks.list (by simp [hh]) _ l (by rw [sz]; exact Nat.ne_of_lt (Nat.lt_succ_of_lt hlS)) items) (S := s.heap.objs.size) (by rw [sz]; simp only [List.mem_cons, List.not_mem_nil, or_false, not_or]; exact ⟨Nat.ne_of_lt (Nat.lt_succ_self _), Nat.ne_of_gt hlS⟩) Rel (fun i h h' r kp => hkeep i h h' r (by rw [← sz]; exact kp)) (fun i v s' Q E hi hv r hq => hstep _ i v s' Q E (by simp [Around.in1]) hi hv r hq) (items.size - 0) 0 _ (by omega) (Nat.zero_le _)
        ⟨⟨_, Heap.get?_push_size _ rfl, rfl, rfl⟩, hl1.push _⟩ (h0 _ k2 (Heap.get?_push_of_some _ hS)) fun h' tk r kp => ?_
      refine wpAny_pure (wpAny_pure ⟨rfl, h', tk, rfl, r, fun b o e => kp b o ?_ (k2 b o e)⟩)
      have := Heap.lt_size e
      rw [sz]
      simp only [List.mem_cons, List.not_mem_nil, or_false, not_or]
      exact ⟨Nat.ne_of_lt this, Nat.ne_of_lt (Nat.lt_succ_of_lt this)⟩
    · match r₂, hr₂ with
      | .error e, hr₂ => exact hr₂
      | .ok (.ret r), hr₂ =>
        obtain ⟨rfl, h', tk, rfl, r, kp⟩ := hr₂
        have hfin := h h' tk r kp
        repeat (any_goals (first | assumption | wp_step))
end
end Sl
/-! SlSeT: set(list) of texts. -/
namespace Sl
open PySem PySem.Spec PyProof.Rows L2 PySem.Froz
abbrev SetXx : Type := Array (Int × Value) × Nat × SetTable
section
variable {P : Program} {w : World} {A : Around} {E : Value → Shared → Prop} {s : Shared}
/-! ### texts -/
theorem tail_perm (ep : Nat) (es1 : Array (Int × Value)) (t2 : SetTable) (wd : Bool) : (tailTx ep es1 t2 wd).1.toList.Perm es1.toList := by
  unfold tailTx
  split
  · exact relayAll_perm _ _ _
  · exact .refl _
theorem tail_led (ep : Nat) (es1 : Array (Int × Value)) (t2 : SetTable) (wd : Bool) : (tailTx ep es1 t2 wd).2.2.led = t2.led := by
  unfold tailTx
  split
  · exact relayAll_led _ _ _
  · rfl
theorem tail_ris (ep : Nat) (es1 : Array (Int × Value)) {t2 : SetTable} (wd : Bool) (r : Ris t2.place.toList) : Ris (tailTx ep es1 t2 wd).2.2.place.toList := by
  unfold tailTx
  split
  · exact relayAll_ris _ _ _
  · exact r
theorem addTx_perm (h : Int) (v : Value) (D : SetXx) : (addTx h v D).1.toList.Perm (D.1.toList ++ [(h, v)]) := by
  have hp := layNew_perm D.2.2 D.1 h v
  rw [Array.toList_push] at hp
  exact (tail_perm _ _ _ _).trans hp
theorem addTx_led (h : Int) (v : Value) (D : SetXx) : (addTx h v D).2.2.led = D.2.2.led := by
  refine (tail_led _ _ _ _).trans ?_
  have hl := layNew_led D.2.2 D.1 h v
  split <;> exact hl
theorem addTx_ris (h : Int) (v : Value) (D : SetXx) (r : Ris D.2.2.place.toList) : Ris (addTx h v D).2.2.place.toList := by
  refine tail_ris _ _ _ ?_
  have hl := layNew_ris D.2.2 D.1 h v r
  split <;> exact hl
/-- the set at S holds the first i of the texts -/
def TxRel (P : Program) (w : World) (S : Addr) (its : List Value) (ss : List Str) (i : Nat) (h : Heap) : Prop := ∃ D : SetXx, h.get? S = some (sObj "set" D) ∧ TxOk P w D (ss.take i).reverse ∧ Ris D.2.2.place.toList ∧ (w.params.followText "set-order" = true ∨ D.2.2.led = true) ∧ (D.1.toList.map (·.2)).Perm (its.take i)
theorem call_set_txt {l : Addr} {items : Array Value} {ss : List Str} {Q : Value → Shared → Prop} (hh : A.handled = none) (hl : s.heap.IsList l items) (hi : Vals (ss.map V.str) items.toList) (hn : ss.Nodup) (hb : ss.length + 1 < scanBound)
    (h : ∀ (h' : Heap) (tk : Nat), TxRel P w s.heap.objs.size items.toList ss ss.length h' → (∀ b o, s.heap.get? b = some o → h'.get? b = some o) → Q (.ref s.heap.objs.size) { s with heap := h', toks := tk }) :
    wpAny (model P w) A (call (.type "set") [.ref l]) Q E s := by
  have hsz : items.size = ss.length := by
    have := hi.length
    rw [List.length_map, Array.length_toList] at this
    exact this.symm
  refine call_setG hh hl (TxRel P w s.heap.objs.size items.toList ss) (fun h' _ e => ⟨(#[], 0, .fresh 0 0 (!w.params.followText "set-order")), e, TxOk.nil rfl, List.Pairwise.nil, ?_, .nil⟩) (fun i h1 h2 ⟨D, e1, e2⟩ kp => ⟨D, kp _ _ (by simp) e1, e2⟩) (fun A' i v s' Q' E' _ hlt hv ⟨D, e1, e2, e3, e4, e5⟩ hq => ?_) (fun h' tk r kp => h h' tk (hsz ▸ r) kp)
  · cases w.params.followText "set-order"
    · exact .inr rfl
    · exact .inl rfl
  · have hlt' : i < ss.length := hsz ▸ hlt
    obtain ⟨k, hk⟩ : ∃ k, ss[i]? = some k := ⟨_, List.getElem?_eq_getElem hlt'⟩
    obtain ⟨u, rfl⟩ : ∃ u, v = .str k u := by
      obtain ⟨v', h1, r⟩ := hi.get (i := i) (x := V.str k) (by rw [List.getElem?_map, hk]; rfl)
      rw [Array.getElem?_toList, hv] at h1
      cases h1
      exact r
    have hnk : k ∉ (ss.take i).reverse := fun hm => by
      rw [List.mem_reverse] at hm
      obtain ⟨j, hj⟩ := List.mem_iff_getElem?.mp hm
      rw [List.getElem?_take] at hj
      split at hj
      · rename_i hji
        exact Nat.ne_of_lt hji ((List.getElem?_inj (by omega) hn).mp (hj.trans hk.symm))
      · cases hj
    unfold setAdd
    refine wpAny_holding (wpAny_bind ((strKind P w).pyHash (k := k) (is_str k u) ?_))
    have hlen : (ss.take i).reverse.length = i := by rw [List.length_reverse, List.length_take]; omega
    refine add_x (s := { s' with toks := s'.toks + 1 }) (T := "set") e1 e2 hnk (by omega) (hq _ _ ⟨?_, fun b hb => ?_⟩ ⟨_, get_upd _ e1 rfl, ?_, addTx_ris _ _ _ e3, by rw [addTx_led]; exact e4, ?_⟩)
    · exact Heap.size_after_update ..
    · exact Heap.get?_update_other _ _ (Ne.symm hb)
    · rw [List.take_add_one, hk]
      simp only [Option.toList_some, List.reverse_append, List.reverse_cons, List.reverse_nil, List.nil_append, List.singleton_append]
      exact add_ok u e2
    · have hp := (addTx_perm (hashStr w k) (.str k u) D).map (·.2)
      rw [List.map_append] at hp
      rw [List.take_add_one, Array.getElem?_toList, hv]
      exact hp.trans (e5.append_right _)
/-! ### sorted(set) -/
open PySem.W in
theorem sorted_setG {β : Type} {a : Addr} {es : Array (Int × Value)} {ep : Nat} {t : SetTable} {Rv : Value → β → Prop} {enc : β → PyData} {Q : Value → Shared → Prop} (hh : A.handled = none) (ha : SetAt s.heap a es ep t) (hf : t.fits es.size = true) (hsz : es.size < scanBound)
    (r : Ris t.place.toList) (hl : w.params.followText "set-order" = true ∨ t.led = true) {bs : List β} (hit : ∀ out : List Value, out.Perm (es.toList.map (·.2)) → ∃ cs : List β, cs.Perm bs ∧ EachIs (fun v b => Rv v b ∧ ∃ as, Reads s.heap v (enc b) as) out cs)
    (hal : ∀ b b' : β, alike (enc b) (enc b') = true) (hk : ∀ cs : List β, Sortable (cs.map enc)) (hn : bs.length ≤ 1000) (hu : ∀ b ∈ bs, A.units + 4 + (enc b).depth < cLine)
    (hQ : ∀ s' p (out : List Value) (c : Nat) (cs : List β), (∀ b o, s.heap.get? b = some o → s'.heap.get? b = some o) → s'.gens = s.gens → s'.os = s.os → s.heap.objs.size ≤ p → s'.heap.get? p = some (seqObj "list" out.toArray c) → cs.Perm bs → EachIs Rv out (cs.mergeSort (dataLe false enc)) → Q (.ref p) s') :
    wpAny (model P w) A (call (.builtin "sorted") [.ref a]) Q E s := by
  refine Calls.call_function_entry kind_sorted plain_sorted entry_sorted (args_sorted1 _) ?_
  unfold Builtin.«sorted»
  refine wpAny_bind (m := checkCount "sorted" 1 1 _) (wpAny_pure ?_)
  refine wpAny_bind (collect_set (A := A.in1) hh ha hf hsz r hl fun s1 vs k1 hz g1 o1 pm => ?_)
  obtain ⟨cs, pc, ec⟩ := hit vs pm
  have hlen : vs.length = cs.length := ec.length
  have hcl : cs.length = bs.length := pc.length_eq
  refine wpAny_bind (wpAny_newList ?_ (by rw [sizeLine_eq]; omega))
  have hoL : (s1.heap.push (seqObj "list" vs.toArray 0)).get? s1.heap.objs.size = some (seqObj "list" vs.toArray 0) := Heap.get?_push_size _ rfl
  have kL : ∀ b o, s.heap.get? b = some o → (s1.heap.push (seqObj "list" vs.toArray 0)).get? b = some o := fun b o e => Heap.get?_push_of_some _ (k1 b o e)
  refine wpAny_bind (wpAny_holding (list_sort_data (A := A.in1) (R := Rv) (bs := cs) (enc := enc) hoL (ec.mono fun _ _ h => h.1) (ec.mono fun v b ⟨_, as, rd⟩ => ⟨as, PyProof.Rows.Reads.keeps kL rd, fun hm => ?_⟩) (AllAlike.of hal) (hk cs) (by rw [sizeLine_eq]; omega) (fun b hb => ?_) fun out _ eo => ?_))
  · have := hu b (pc.mem_iff.mp hb)
    show A.units + 1 + 1 + (enc b).depth < cLine
    omega
  · obtain ⟨c, hc⟩ := sortedHeap_at (vs := vs) (out := out.toArray) hoL
    refine wpAny_pure ⟨_, rfl, hQ _ s1.heap.objs.size out c cs (fun b u e => ?_) g1 o1 hz hc pc eo⟩
    have hlt := Heap.lt_size (k1 b u e)
    show (sortedHeap (s1.heap.push (seqObj "list" vs.toArray 0)) s1.heap.objs.size vs out.toArray).get? b = some u
    rw [sortedHeap_old (Nat.ne_of_lt hlt) (by rw [size_push']; exact Nat.lt_succ_of_lt hlt)]
    exact kL b u e
  · obtain ⟨o, e⟩ := PyProof.On.reads_mem_get rd _ hm
    exact absurd (Heap.lt_size (k1 _ _ e)) (Nat.lt_irrefl _)
end
end Sl
/-! SlSeU: a set of objects, each new: its table, over any way of telling the objects. -/
namespace Sl
open PySem PySem.Spec PyProof.Rows L2 PySem.Froz
section
variable {κ : Type} {P : Program} {w : World} {A : Around} {E : Value → Shared → Prop} {s : Shared}
/-- what is asked of the things: It h k b, the object at b is k -/
structure KOps (P : Program) (w : World) (It : Heap → κ → Addr → Prop) (hf : κ → Int) : Prop where
  eq : ∀ {A : Around} {E : Value → Shared → Prop} {s : Shared} {x y : κ} {a b : Addr} {Q : Bool → Shared → Prop}, A.units < cLine → It s.heap x a → It s.heap y b → x ≠ y → Q false s → wpAny (model P w) A (eqBool (.ref a) (.ref b)) Q E s
  seen : ∀ {A : Around} {E : Value → Shared → Prop} {s : Shared} {k : κ} {b : Addr} {ys : List Value} {Q : Bool → Shared → Prop}, It s.heap k b → (∀ y ∈ ys, ∃ k' c, y = Value.ref c ∧ It s.heap k' c) → Q false s → wpAny (model P w) A (searchCouldBeSeen (.ref b) ys) Q E s
  byV : ∀ {A : Around} {E : Value → Shared → Prop} {s : Shared} {k : κ} {b : Addr} {Q : Bool → Shared → Prop}, It s.heap k b → (∀ c, Q c s) → wpAny (model P w) A (hashByValue 8 (.ref b)) Q E s
  other : ∀ {h h' : Heap} {k : κ} {a b : Addr} {o : Obj} {es : Array (Int × Value)} {ep : Nat} {t : SetTable}, It h k b → h.get? a = some o → o.data = .set es ep t → Heap.SameBut a h h' → It h' k b
  keep : ∀ {h h' : Heap} {k : κ} {b : Addr}, It h k b → (∀ o, h.get? b = some o → h'.get? b = some o) → It h' k b
def rowsK (hf : κ → Int) (L : List (Addr × κ)) : List (Int × Value) := L.map fun p => (hf p.2, Value.ref p.1)
abbrev hsK (hf : κ → Int) (L : List (Addr × κ)) : List Int := L.map fun p => hf p.2
structure SetK (w : World) (It : Heap → κ → Addr → Prop) (hf : κ → Int) (h : Heap) (a : Addr) (L : List (Addr × κ)) (es : Array (Int × Value)) (ep : Nat) (t : SetTable) : Prop where
  ob : ∃ o, h.get? a = some o ∧ o.ExactSet ∧ o.data = .set es ep t
  rows : es.toList = rowsK hf L
  tab : TabOk t (hsK hf L)
  its : ∀ p ∈ L, It h p.2 p.1
  ld : w.params.followText "set-order" = true ∨ t.led = true
  room : L.length * 5 < t.mask * 3
  few : L.length < 64
variable {It : Heap → κ → Addr → Prop} {hf : κ → Int} {a : Addr} {L : List (Addr × κ)} {es : Array (Int × Value)} {ep : Nat} {t : SetTable}
theorem rowsK_len {es : Array (Int × Value)} {L : List (Addr × κ)} (h : es.toList = rowsK hf L) : es.size = L.length := by
  rw [← Array.length_toList, h]
  exact List.length_map ..
theorem rowsK_at {es : Array (Int × Value)} {L : List (Addr × κ)} (h : es.toList = rowsK hf L) {i : Nat} {p : Addr × κ} (hp : L[i]? = some p) : es[i]? = some (hf p.2, Value.ref p.1) := by
  rw [← Array.getElem?_toList, h]
  exact (List.getElem?_map ..).trans (by rw [hp]; rfl)
theorem SetK.sz (R : SetK w It hf s.heap a L es ep t) : es.size = L.length := rowsK_len R.rows
theorem SetK.psz (R : SetK w It hf s.heap a L es ep t) : t.place.size = L.length := R.tab.sz.trans (List.length_map ..)
theorem SetK.fits (R : SetK w It hf s.heap a L es ep t) : t.fits es.size = true := by
  have h1 := R.psz
  have h2 := R.sz
  have h3 := R.room
  have h4 : t.dummies.size = 0 := by rw [R.tab.dm]; rfl
  unfold SetTable.fits SetTable.fill
  rw [Bool.and_eq_true, beq_iff_eq, decide_eq_true_eq]
  exact ⟨h1.trans h2.symm, by omega⟩
theorem SetK.whole (R : SetK w It hf s.heap a L es ep t) : ¬ t.gaveWay = true := by
  unfold SetTable.gaveWay
  rw [mask_odd R.tab.mok]
  exact Bool.false_ne_true
abbrev way0 (t : SetTable) (h : Int) : SetTable.Probe := runAt t.mask (SetTable.bits h % (t.mask + 1)) (SetTable.bits h)
theorem nodummy {m : Nat} : ∀ (n : Nat) (p : SetTable.Probe), p.dummy = none → (nth m p n).dummy = none
  | 0, _, h => h
  | n + 1, p, h => nodummy n (adv m p) (by unfold adv; split <;> exact h)
/-- the search for a thing that is not there, from the c-th step of its way -/
theorem srchK (O : KOps P w It hf) (R : SetK w It hf s.heap a L es ep t) {x : Addr} {k : κ} (hx : It s.heap k x) (hn : ∀ p ∈ L, p.2 ≠ k) (hu : A.units < cLine) {K : Nat} (hK1 : K < 10 * SetTable.turns t.mask) (hK2 : way t.mask (hf k) K ∉ t.place.toList) (hK3 : ∀ c, c < K → way t.mask (hf k) c ∈ t.place.toList)
    {Q : SetFound → Shared → Prop} (hq : Q (.free (way t.mask (hf k) K) false) s) : ∀ (f c : Nat) (st : Option SetTable.Probe), st.getD (t.probeStart (hf k)) = nth t.mask (way0 t (hf k)) c → c ≤ K → K - c < f → wpAny (model P w) A (setSearchFrom a (.ref x) (hf k) true f st) Q E s
  | 0, _, _, _, _, h => absurd h (Nat.not_lt_zero _)
  | f + 1, c, st, e0, hc, hfu => by
    obtain ⟨o, ho, _, hd⟩ := R.ob
    have at_ : ∀ q, (nth t.mask (nth t.mask (way0 t (hf k)) c) q).j = way t.mask (hf k) (c + q) := fun q => congrArg SetTable.Probe.j (nth_add t.mask c _ q).symm
    have sp := go_spec t R.tab.ris R.tab.dm (fun i => (es[i]?.map (·.1)).getD 0) (hf k) (10 * SetTable.turns t.mask) (K - c) _ (nodummy c _ rfl) (by omega) (fun q hq => by rw [at_]; exact hK3 _ (by omega)) (by rw [at_, Nat.add_sub_of_le hc]; exact hK2)
    rw [setSearchFrom_succ]
    refine wpAny_bind (wpAny_setState_of ho hd R.fits (wp_if_neg R.whole ?_))
    rcases sp with ⟨q, i, h1, h2, _, _, h3⟩ | ⟨_, h3⟩
    · rw [show t.probe (fun i => (es[i]?.map (·.1)).getD 0) (hf k) (st.getD (t.probeStart (hf k))) = some (.candidate (way t.mask (hf k) (c + q)) i (nth t.mask (way0 t (hf k)) (c + (q + 1)))) by rw [e0, ← at_, nth_add t.mask c _ (q + 1)]; exact h3]
      dsimp only
      rw [at_] at h2
      have hil : i < L.length := by
        have := (List.getElem?_eq_some_iff.mp h2).1
        rw [Array.length_toList, R.psz] at this
        exact this
      obtain ⟨p, hp⟩ : ∃ p, L[i]? = some p := ⟨_, List.getElem?_eq_getElem hil⟩
      have hm := List.mem_of_getElem? hp
      have hne := hn p hm
      have cont : wpAny (model P w) A (searchRest a (.ref x) (hf k) true f es t (way t.mask (hf k) (c + q)) i (nth t.mask (way0 t (hf k)) (c + (q + 1)))) Q E s := by
        unfold searchRest
        rw [rowsK_at R.rows hp]
        refine wpAny_bind (wpAny_holding (O.eq hu (R.its p hm) hx hne (wpAny_bind (wpAny_setState_of ho hd R.fits ?_))))
        dsimp only
        refine wp_if_neg (by decide) ?_
        rw [sameMem]
        dsimp only
        simp only [if_true, slot_live R.tab.ris h2, rowsK_at R.rows hp]
        refine wpAny_bind (wpAny_isSame_ref_self (wpAny_bind (wpAny_pure ?_)))
        simp only [if_true]
        exact wp_if_neg (by decide) (srchK O R hx hn hu hK1 hK2 hK3 hq f (c + (q + 1)) _ rfl (by omega) (by omega))
      by_cases hl : t.led = true
      · exact wp_if_neg (by simp [hl]) cont
      · refine wp_if_pos (by simp [hl]) (wpAny_bind (O.seen hx (fun y hy => ?_) (wp_if_neg (by decide) cont)))
        obtain ⟨e, he, rfl⟩ := List.mem_map.mp hy
        have he2 : e ∈ es.toList := by
          have : e ∈ es ∧ e.1 = hf k := by simpa using he
          simpa using this.1
        rw [R.rows] at he2
        obtain ⟨p2, hp2, rfl⟩ := List.mem_map.mp he2
        exact ⟨p2.2, p2.1, rfl, R.its p2 hp2⟩
    · rw [show t.probe (fun i => (es[i]?.map (·.1)).getD 0) (hf k) (st.getD (t.probeStart (hf k))) = some (.empty (way t.mask (hf k) K) none) by rw [e0, show way t.mask (hf k) K = _ from (by rw [at_, Nat.add_sub_of_le hc] : (nth t.mask (nth t.mask (way0 t (hf k)) c) (K - c)).j = way t.mask (hf k) K).symm]; exact h3]
      exact wpAny_pure hq
theorem findK (O : KOps P w It hf) (R : SetK w It hf s.heap a L es ep t) {x : Addr} {k : κ} (hx : It s.heap k x) (hn : ∀ p ∈ L, p.2 ≠ k) (hu : A.units < cLine) {Q : SetFound → Shared → Prop}
    (hq : ∀ K, way t.mask (hf k) K ∉ t.place.toList → (∀ c, c < K → way t.mask (hf k) c ∈ t.place.toList) → Q (.free (way t.mask (hf k) K) false) s) : wpAny (model P w) A (setSearch a (.ref x) (hf k) true) Q E s := by
  have hroom := R.room
  obtain ⟨K, k1, k2, k3⟩ := R.tab.first (show (hsK hf L).length ≤ t.mask by rw [List.length_map]; omega) (hf k)
  have : 10 * SetTable.turns t.mask ≤ 1420 := by
    unfold SetTable.turns
    rcases R.tab.mok with e | e | e <;> omega
  exact srchK O R hx hn hu k1 k2 k3 (hq K k2 k3) 100000 0 none rfl (Nat.zero_le _) (by omega)
/-- rows in another order -/
theorem rowsK_ord {L : List (Addr × κ)} {es : Array (Int × Value)} (hr : es.toList = rowsK hf L) : ∀ l : List Nat, (∀ i ∈ l, i < L.length) → l.filterMap (fun i => es[i]?) = rowsK hf (l.filterMap fun i => L[i]?) ∧ (hsK hf (l.filterMap fun i => L[i]?)) = l.map fun i => (es.map (·.1)).getD i 0
  | [], _ => ⟨rfl, rfl⟩
  | i :: l, hl => by
    have hi := hl i List.mem_cons_self
    obtain ⟨e1, e2⟩ := rowsK_ord hr l fun j hj => hl j (List.mem_cons_of_mem _ hj)
    have hp := List.getElem?_eq_getElem hi
    have he := rowsK_at hr hp
    rw [List.filterMap_cons_some he, List.filterMap_cons_some hp, e1]
    refine ⟨rfl, ?_⟩
    rw [List.map_cons, ← e2]
    have : (es.map (·.1)).getD i 0 = hf (L[i]).2 := by
      have h5 : (es.map (·.1))[i]? = some (hf (L[i]).2) := by rw [Array.getElem?_map, he]; rfl
      simp [Array.getD_eq_getD_getElem?, h5]
    rw [this]
    rfl
theorem range_fm {α : Type} (L : List α) : (List.range L.length).filterMap (fun i => L[i]?) = L := by
  have key : ∀ n, n ≤ L.length → (List.range n).filterMap (fun i => L[i]?) = L.take n := fun n => by
    induction n with
    | zero => exact fun _ => rfl
    | succ n ih =>
      intro hn
      rw [List.range_succ, List.filterMap_append, ih (Nat.le_of_succ_le hn), List.take_add_one]
      have hp := List.getElem?_eq_getElem (show n < L.length from hn)
      rw [hp, List.filterMap_cons_some hp]
      rfl
  rw [key _ (Nat.le_refl _), List.take_length]
/-- what storing a table gives -/
theorem relayK (O : KOps P w It hf) {o : Obj} (ho : s.heap.get? a = some o) (hex : o.ExactSet) (hd : o.data = .set es ep t) (hr : es.toList = rowsK hf L) (hsz : t.place.size = es.size) (hdm : t.dummies = #[]) (hfl : es.size ≤ t.mask) (hit : ∀ p ∈ L, It s.heap p.2 p.1)
    (ld : w.params.followText "set-order" = true ∨ t.led = true) (few : L.length < 64) {wn M : Nat} (hw : SetTable.sizeAbove wn - 1 = M) (hM : MaskOk M) (hw2 : SetTable.sizeAbove wn ≤ 128) (hn : L.length * 5 < M * 3) {Q : Unit → Shared → Prop}
    (hQ : ∀ h' L' es' ep' t', Heap.SameBut a s.heap h' → SetK w It hf h' a L' es' ep' t' → L'.Perm L → Q () { s with heap := h' }) : wpAny (model P w) A (setRelay a wn) Q E s := by
  have hsl := rowsK_len hr
  have hfit : t.fits es.size = true := by
    have h4 : t.dummies.size = 0 := by rw [hdm]; rfl
    unfold SetTable.fits SetTable.fill
    rw [Bool.and_eq_true, beq_iff_eq, decide_eq_true_eq]
    exact ⟨hsz, by omega⟩
  obtain ⟨t', ord, e1, e2, T, em, el, epl, edm⟩ := relaid_ok t (hs := es.map (·.1)) (wanted := wn) hw hM (by rw [Array.size_map, hsl]; omega)
  rw [Array.size_map, hsl] at e2
  obtain ⟨r1, r3⟩ := rowsK_ord (hf := hf) hr ord.toList fun i hi => List.mem_range.mp (e2.mem_iff.mp hi)
  have r2 : (ord.toList.filterMap fun i => L[i]?).Perm L := by
    have := e2.filterMap fun i => L[i]?
    rwa [range_fm] at this
  rw [← r3] at T
  generalize ord.toList.filterMap (fun i => L[i]?) = L2 at r1 r2 T
  have q1 : (ord.filterMap (es[·]?)).toList = rowsK hf L2 := by first | (rw [Array.toList_filterMap]; exact r1) | simpa using r1
  have q2 : (ord.filterMap (es[·]?)).size = es.size := by rw [rowsK_len q1, r2.length_eq, hsl]
  rw [setRelay_eq]
  refine wpAny_bind (wpAny_setState_of ho hd hfit (wp_if_neg (by rw [sizeLine_eq]; omega) ?_))
  rw [e1]
  dsimp only
  refine wpAny_bind (wp_if_neg (by rw [q2]; simp) ?_)
  refine wpAny_pure ?_
  dsimp only
  refine wpAny_storeSet_of ho hd ?_ (by rw [q2, hsl, sizeLine_eq]; omega)
  have sb : Heap.SameBut a s.heap (s.heap.update a (Obj.putSet (ord.filterMap (es[·]?)) t')) := Heap.SameBut.update ..
  exact hQ _ L2 _ (ep + 1) t' sb ⟨⟨_, store_at ho hd, ⟨hex.1, hex.2.1, hex.2.2⟩, rfl⟩, q1, T, fun p hp => O.other (hit p (r2.mem_iff.mp hp)) ho hd sb, by rw [el]; exact ld, by rw [r2.length_eq, em]; exact hn, by rw [r2.length_eq]; exact few⟩ r2
theorem wp_byV (O : KOps P w It hf) {α : Type} {x : Addr} {k : κ} (hx : It s.heap k x) (t0 : SetTable) {f : Bool → Sem α} {Q : α → Shared → Prop} (h : ∀ c, wpAny (model P w) A (f c) Q E s) : wpAny (model P w) A (if t0.plain = true then hashByValue 8 (.ref x) >>= f else pure true >>= f) Q E s := by
  by_cases hp : t0.plain = true
  · exact wp_if_pos hp (wpAny_bind (O.byV hx h))
  · exact wp_if_neg hp (wpAny_bind (wpAny_pure (h true)))
/-- a new thing is added -/
theorem addK (O : KOps P w It hf) (R : SetK w It hf s.heap a L es ep t) {x : Addr} {k : κ} (hx : It s.heap k x) (hn : ∀ p ∈ L, p.2 ≠ k) (hu : A.units < cLine) (few : L.length + 1 < 64) {Q : Bool → Shared → Prop}
    (hQ : ∀ h' L' es' ep' t', Heap.SameBut a s.heap h' → SetK w It hf h' a L' es' ep' t' → L'.Perm ((x, k) :: L) → Q true { s with heap := h' }) : wpAny (model P w) A (setAddHashed a (.ref x) (hf k)) Q E s := by
  obtain ⟨o, ho, hex, hd⟩ := R.ob
  have hsl := R.sz
  have hroom := R.room
  unfold setAddHashed
  rw [show (100000 : Nat) = 99999 + 1 from rfl, setAddHashedIn_succ]
  refine wpAny_holding (wpAny_bind (wpAny_setState_of ho hd R.fits ?_))
  dsimp only
  refine wp_if_neg (by simp [byScan, Value.scannable]) ?_
  refine wpAny_bind (findK O R hx hn hu fun K hK hb => ?_)
  dsimp only
  refine wpAny_bind (wpAny_setState_of ho hd R.fits ?_)
  dsimp only
  obtain ⟨q1, q2, q3, q4, q5, q6, _, _, q9⟩ := R.tab.put hK hb
  generalize hpt : t.put (way t.mask (hf k) K) = pt at q1 q3 q4 q5 q9 ⊢
  obtain ⟨t0, p⟩ := pt
  dsimp only at q1 q3 q4 q5 q9 ⊢
  rw [← q1] at q2 q3
  have pm : (L.take p ++ (x, k) :: L.drop p).Perm ((x, k) :: L) := put_perm L p (x, k)
  have hin : (SetTable.insertAt es p (hf k, Value.ref x)).toList = rowsK hf (L.take p ++ (x, k) :: L.drop p) := by
    rw [SetTable.toList_insertAt, R.rows]
    unfold rowsK
    rw [List.map_append, List.map_cons, List.map_take, List.map_drop]
  have hhs : hsK hf (L.take p ++ (x, k) :: L.drop p) = (hsK hf L).take p ++ hf k :: (hsK hf L).drop p := by
    unfold hsK
    rw [List.map_append, List.map_cons, List.map_take, List.map_drop]
  rw [← hhs] at q3
  have hes := (rowsK_len hin).trans pm.length_eq
  refine wp_byV O hx t0 fun c => ?_
  have q1' : TabOk (if c = true then t0 else { t0 with plain := false }) (hsK hf (L.take p ++ (x, k) :: L.drop p)) := by
    cases c
    · exact ⟨q3.ris, q3.dm, q3.sz, q3.mok, q3.bd, q3.reach⟩
    · exact q3
  have q4' : (if c = true then t0 else { t0 with plain := false }).mask = t.mask := by
    cases c <;> exact q4
  have q5' : (if c = true then t0 else { t0 with plain := false }).led = t.led := by
    cases c <;> exact q5
  have q9' : (if c = true then t0 else { t0 with plain := false }).fill = (hsK hf L).length + 1 := by
    cases c <;> exact q9
  generalize (if c = true then t0 else { t0 with plain := false }) = t1 at q1' q4' q5' q9' ⊢
  clear q1 q2 q3 q4 q5 q6 q9
  have q3 := q1'
  have q4 := q4'
  have q5 := q5'
  have q9 := q9'
  generalize SetTable.insertAt es p (hf k, Value.ref x) = es1 at hin hes ⊢
  generalize L.take p ++ (x, k) :: L.drop p = L1 at pm q3 hin
  have hl1 : L1.length = L.length + 1 := pm.length_eq
  rw [List.length_cons] at hes
  refine wpAny_bind (wpAny_storeSet_of ho hd ?_ (by rw [hes, sizeLine_eq]; omega))
  have sb : Heap.SameBut a s.heap (s.heap.update a (Obj.putSet es1 t1)) := Heap.SameBut.update ..
  have ho1 := store_at (es' := es1) (t' := t1) ho hd
  generalize s.heap.update a (Obj.putSet es1 t1) = h1 at sb ho1 ⊢
  have it1 : ∀ p ∈ L1, It h1 p.2 p.1 := fun p hp => by
    rcases List.mem_cons.mp (pm.mem_iff.mp hp) with rfl | hp
    · exact O.other hx ho hd sb
    · exact O.other (R.its p hp) ho hd sb
  have ld1 : w.params.followText "set-order" = true ∨ t1.led = true := by rw [q5]; exact R.ld
  rw [show (hsK hf L).length = L.length from List.length_map ..] at q9
  by_cases hfl : t1.tooFull = true
  · have full : (L.length + 1) * 5 ≥ t1.mask * 3 := by
      unfold SetTable.tooFull at hfl
      rw [decide_eq_true_eq, q9] at hfl
      exact hfl
    have two : (t.mask = 7 ∧ L.length = 4) ∨ (t.mask = 31 ∧ L.length = 18) := by
      rw [q4] at full
      rcases R.tab.mok with e | e | e <;> rw [e] at full hroom <;> first | exact .inl ⟨e, by omega⟩ | exact .inr ⟨e, by omega⟩ | omega
    have go : ∀ M, SetTable.sizeAbove (SetTable.grown (es.size + 1)) - 1 = M → MaskOk M → SetTable.sizeAbove (SetTable.grown (es.size + 1)) ≤ 128 → (L.length + 1) * 5 < M * 3 →
        wpAny (model P w) A (setRelay a (SetTable.grown (es.size + 1))) (fun _ s' => wpAny (model P w) A (pure true) Q E s') E { s with heap := h1 } := fun M m1 m2 m3 m4 =>
      relayK (s := { s with heap := h1 }) O ho1 ⟨hex.1, hex.2.1, hex.2.2⟩ rfl hin (by rw [hes, ← hl1]; exact q3.sz.trans (List.length_map ..)) q3.dm (by rw [hes, q4]; rcases two with ⟨e, e2⟩ | ⟨e, e2⟩ <;> omega) it1 ld1 (by omega) m1 m2 m3 (by omega)
        fun h2 L2 es2 ep2 t2 sb2 R2 pm2 => wpAny_pure (hQ h2 L2 es2 ep2 t2 (sb.trans sb2) R2 (pm2.trans pm))
    first
      | (refine wpAny_bind ?_; refine wp_if_pos (by simp [hfl]) ?_)
      | (refine wp_if_pos (by simp [hfl]) ?_; refine wpAny_bind ?_)
    rcases two with ⟨_, e2⟩ | ⟨_, e2⟩
    · exact go 31 (by rw [hsl, e2, size_20]) (.inr (.inl rfl)) (by rw [hsl, e2, size_20]; decide) (by omega)
    · exact go 127 (by rw [hsl, e2, size_76]) (.inr (.inr rfl)) (by rw [hsl, e2, size_76]; decide) (by omega)
  · have room1 : L1.length * 5 < t1.mask * 3 := by
      unfold SetTable.tooFull at hfl
      rw [decide_eq_true_eq, q9] at hfl
      omega
    first
      | refine wp_if_neg (by simp [hfl]) ?_
      | (refine wpAny_bind ?_; refine wp_if_neg (by simp [hfl]) ?_; refine wpAny_pure ?_)
    exact wpAny_pure (hQ h1 L1 es1 (ep + 1) t1 sb ⟨⟨_, ho1, ⟨hex.1, hex.2.1, hex.2.2⟩, rfl⟩, hin, q3, it1, ld1, room1, by omega⟩ pm)
theorem setK_fresh {h : Heap} (ho : h.get? a = some (freshSet w)) : SetK w It hf h a [] #[] 0 (.fresh 0 0 (!w.params.followText "set-order")) where
  ob := ⟨_, ho, ⟨rfl, rfl, rfl⟩, rfl⟩
  rows := rfl
  tab := ⟨List.Pairwise.nil, rfl, rfl, .inl rfl, fun _ h => (nomatch h), fun _ _ _ h => (by simp at h)⟩
  its := fun _ h => (nomatch h)
  ld := by
    rcases Bool.eq_false_or_eq_true (w.params.followText "set-order") with h | h
    · exact .inl h
    · exact .inr (show (!w.params.followText "set-order") = true by rw [h]; rfl)
  room := show 0 * 5 < 7 * 3 by decide
  few := show 0 < 64 by decide
theorem SetK.kept {h h' : Heap} (O : KOps P w It hf) (R : SetK w It hf h a L es ep t) (ha : ∀ o, h.get? a = some o → h'.get? a = some o) (hi : ∀ p ∈ L, ∀ o, h.get? p.1 = some o → h'.get? p.1 = some o) : SetK w It hf h' a L es ep t := by
  obtain ⟨o, ho, r⟩ := R.ob
  exact ⟨⟨o, ha o ho, r⟩, R.rows, R.tab, fun p hp => O.keep (R.its p hp) (hi p hp), R.ld, R.room, R.few⟩
end
end Sl
/-! SlSeV: set(list) of tuples of numbers and texts. -/
namespace Sl
open PySem PySem.Spec PyProof.Rows L2 PySem.Froz
section
variable {P : Program} {w : World} {A : Around} {E : Value → Shared → Prop} {s : Shared}
theorem keyed_items {k : List Key} {vs : List Value} (h : ItemsAre (mixKind P w) k vs) : ∀ v ∈ vs, (∃ i t, v = Value.int i t) ∨ ∃ x t, v = Value.str x t := by
  induction h with
  | nil => exact fun v hv => nomatch hv
  | @cons k0 v' ks vs h1 _ ih =>
    intro v hv
    rcases List.mem_cons.mp hv with rfl | hv
    · rcases keyIs_shape h1 with ⟨i, t, _, e⟩ | ⟨x, t, _, e⟩
      · exact .inl ⟨i, t, e⟩
      · exact .inr ⟨x, t, e⟩
    · exact ih v hv
theorem keyed_ofA (n : Nat) {v : Value} (h : (∃ i t, v = Value.int i t) ∨ ∃ x t, v = Value.str x t) : ofAClassStatement n v = pure false := by
  rcases h with ⟨i, t, rfl⟩ | ⟨x, t, rfl⟩ <;> cases n <;> rfl
theorem keyed_by (n : Nat) {v : Value} (h : (∃ i t, v = Value.int i t) ∨ ∃ x t, v = Value.str x t) : ∃ c, hashByValue n v = pure c := by
  rcases h with ⟨i, t, rfl⟩ | ⟨x, t, rfl⟩
  · exact ⟨true, by cases n <;> rfl⟩
  · exact ⟨false, by cases n <;> rfl⟩
abbrev IsKT (P : Program) (w : World) (h : Heap) (k : List Key) (b : Addr) : Prop := IsTupleKey (mixKind P w) h k b
theorem ofA_kt {k : List Key} {b : Addr} {Q : Bool → Shared → Prop} (hk : IsKT P w s.heap k b) (h : Q false s) : wpAny (model P w) A (ofAClassStatement 8 (.ref b)) Q E s := by
  have hT := hk.typeIs
  obtain ⟨o, items, n, ho, _, hd, hi⟩ := hk
  unfold ofAClassStatement
  refine wpAny_bind (wpAny_typeOf hT ?_)
  dsimp only
  have e : (("tuple" : String) == "tuple") = true := by decide
  simp only [e, if_true, Bool.not_true, Bool.false_eq_true, if_false]
  try refine wpAny_bind (wpAny_pure ?_)
  try simp only [Bool.not_true, Bool.false_eq_true, if_false]
  show wpAny _ _ (seqItems? (.ref b) >>= _) _ _ s
  refine wpAny_bind (wpAny_seqItems ho hd ?_)
  dsimp only
  refine wpAny_bind ?_
  show wpAny _ _ (forIn items _ _) _ _ s
  rw [← Array.forIn_toList]
  refine wpAny_forIn_list _ (fun l r s' => r.1 = none ∧ s' = s ∧ ∀ v ∈ l, (∃ i t, v = Value.int i t) ∨ ∃ x t, v = Value.str x t) _ (fun v l r s' ⟨hr, hs, all⟩ => ?_) (fun r s' ⟨hr, hs, _⟩ => ?_) _ _ ⟨rfl, rfl, keyed_items hi⟩
  · subst hs
    rw [keyed_ofA _ (all v List.mem_cons_self)]
    refine wpAny_bind (wpAny_pure ?_)
    simp only [Bool.false_eq_true, if_false]
    exact wpAny_pure ⟨rfl, rfl, fun u hu => all u (List.mem_cons_of_mem _ hu)⟩
  · obtain ⟨r1, r2⟩ := r
    have hr' : r1 = none := hr
    subst hr' hs
    exact wpAny_pure h
theorem byV_kt {k : List Key} {b : Addr} {Q : Bool → Shared → Prop} (hk : IsKT P w s.heap k b) (h : ∀ c, Q c s) : wpAny (model P w) A (hashByValue 8 (.ref b)) Q E s := by
  have hT := hk.typeIs
  obtain ⟨o, items, n, ho, _, hd, hi⟩ := hk
  unfold hashByValue
  refine wpAny_bind (wpAny_specialOf hT F.slot_tuple_hash.lookup ?_)
  show wpAny _ _ (seqItems? (.ref b) >>= _) _ _ s
  refine wpAny_bind (wpAny_seqItems ho hd ?_)
  refine wpAny_bind ?_
  show wpAny _ _ (forIn items _ _) _ _ s
  rw [← Array.forIn_toList]
  refine wpAny_forIn_list _ (fun l r s' => s' = s ∧ ∀ v ∈ l, (∃ i t, v = Value.int i t) ∨ ∃ x t, v = Value.str x t) _ (fun v l r s' ⟨hs, all⟩ => ?_) (fun r s' ⟨hs, _⟩ => ?_) _ _ ⟨rfl, keyed_items hi⟩
  · subst hs
    obtain ⟨c, hc⟩ := keyed_by 7 (all v List.mem_cons_self)
    rw [hc]
    refine wpAny_bind (wpAny_pure ?_)
    cases c
    · simp only [Bool.not_false, if_true]
      exact wpAny_pure (wpAny_pure (h false))
    · simp only [Bool.not_true, Bool.false_eq_true, if_false]
      exact wpAny_pure ⟨rfl, fun u hu => all u (List.mem_cons_of_mem _ hu)⟩
  · subst hs
    obtain ⟨r1, r2⟩ := r
    cases r1 with
    | none => exact wpAny_pure (h true)
    | some c => exact wpAny_pure (h c)
theorem seen_kt {k : List Key} {b : Addr} {Q : Bool → Shared → Prop} (hk : IsKT P w s.heap k b) {ys : List Value} (hy : ∀ y ∈ ys, ∃ k' c, y = Value.ref c ∧ IsKT P w s.heap k' c) (h : Q false s) :
    wpAny (model P w) A (searchCouldBeSeen (.ref b) ys) Q E s := by
  unfold searchCouldBeSeen
  refine wpAny_bind (wpAny_forIn_list _ (fun l r s' => r.1 = none ∧ s' = s ∧ ∀ y ∈ l, ∃ k' c, y = Value.ref c ∧ IsKT P w s.heap k' c) _ (fun v l r s' ⟨hr, hs, all⟩ => ?_) (fun r s' ⟨hr, hs, _⟩ => ?_) _ _ ⟨rfl, rfl, hy⟩)
  · subst hs
    obtain ⟨k', c, rfl, hc⟩ := all v List.mem_cons_self
    have more : ∀ y ∈ l, ∃ k' c, y = Value.ref c ∧ IsKT P w s'.heap k' c := fun u hu => all u (List.mem_cons_of_mem _ hu)
    dsimp only
    by_cases hv : (b == c || (carriedByValue (.ref b) && carriedByValue (.ref c))) = true
    · exact wp_if_pos hv (wpAny_pure ⟨rfl, rfl, more⟩)
    · refine wp_if_neg hv (wpAny_bind (wpAny_eqIsQuiet_tuple hk ?_))
      simp only [Bool.not_true, Bool.false_eq_true, if_false]
      refine wpAny_bind (wpAny_eqIsQuiet_tuple hc ?_)
      simp only [Bool.not_true, Bool.false_eq_true, if_false]
      refine wpAny_bind (ofA_kt hk ?_)
      simp only [Bool.false_eq_true, if_false]
      refine wpAny_bind (ofA_kt hc ?_)
      simp only [Bool.false_eq_true, if_false]
      exact wpAny_pure ⟨rfl, rfl, more⟩
  · obtain ⟨r1, r2⟩ := r
    have hr' : r1 = none := hr
    subst hr' hs
    exact wpAny_pure h
theorem kops : KOps P w (IsKT P w) (tupleKeyHash (mixKind P w)) where
  eq hu hx hy hne h := wpAny_eqBool_tuple hu hx hy (by rw [decide_eq_false hne]; exact h)
  seen hk hy h := seen_kt hk hy h
  byV hk h := byV_kt hk h
  other := fun {h h' k a b o es ep t} ⟨o', items, n, ho', hc, hd', hi⟩ ho hd sb => by
    refine ⟨o', items, n, (sb.2 b fun e => ?_).trans ho', hc, hd', hi⟩
    subst e
    cases ho'.symm.trans ho
    rw [hd] at hd'
    exact nomatch hd'
  keep := fun {h h' k b} ⟨o', items, n, ho', r⟩ hk => ⟨o', items, n, hk _ ho', r⟩
/-- the set at S holds the first i of the tuples -/
def KtRel (P : Program) (w : World) (S : Addr) (ks : List (Addr × List Key)) (i : Nat) (h : Heap) : Prop := ∃ L es ep t, SetK w (IsKT P w) (tupleKeyHash (mixKind P w)) h S L es ep t ∧ L.Perm (ks.take i) ∧ ∀ p ∈ ks, IsKT P w h p.2 p.1
theorem call_set_kt {l : Addr} {items : Array Value} {ks : List (Addr × List Key)} {Q : Value → Shared → Prop} (hh : A.handled = none) (hu : A.units + 8 < cLine) (hl : s.heap.IsList l items) (hi : items.toList = ks.map fun p => Value.ref p.1) (hk : ∀ p ∈ ks, IsKT P w s.heap p.2 p.1) (hn : (ks.map (·.2)).Nodup) (hb : ks.length < 63)
    (h : ∀ (h' : Heap) (tk : Nat), KtRel P w s.heap.objs.size ks ks.length h' → (∀ b o, s.heap.get? b = some o → h'.get? b = some o) → Q (.ref s.heap.objs.size) { s with heap := h', toks := tk }) :
    wpAny (model P w) A (call (.type "set") [.ref l]) Q E s := by
  have hsz : items.size = ks.length := by
    rw [← Array.length_toList, hi, List.length_map]
  have old : ∀ p ∈ ks, p.1 < s.heap.objs.size := fun p hp => by
    obtain ⟨o, _, _, ho, _⟩ := hk p hp
    exact Heap.lt_size ho
  refine call_setG hh hl (KtRel P w s.heap.objs.size ks) (fun h' k e => ⟨[], _, _, _, setK_fresh e, .refl _, fun p hp => kops.keep (hk p hp) (k _)⟩) (fun i h1 h2 ⟨L, es, ep, t, R, pm, it⟩ kp => ?_) (fun A' i v s' Q' E' hA hlt hv ⟨L, es, ep, t, R, pm, it⟩ hq => ?_) (fun h' tk r kp => h h' tk (hsz ▸ r) kp)
  · have k2 : ∀ p ∈ ks, ∀ o, h1.get? p.1 = some o → h2.get? p.1 = some o := fun p hp o e => kp _ _ (fun z => absurd (List.mem_singleton.mp z) (Nat.ne_of_lt (Nat.lt_succ_of_lt (old p hp)))) e
    exact ⟨L, es, ep, t, R.kept kops (fun o e => kp _ _ (by simp) e) fun p hp => k2 p (List.mem_of_mem_take (pm.mem_iff.mp hp)), pm, fun p hp => kops.keep (it p hp) (k2 p hp)⟩
  · have hlt' : i < ks.length := hsz ▸ hlt
    obtain ⟨p, hp⟩ : ∃ p, ks[i]? = some p := ⟨_, List.getElem?_eq_getElem hlt'⟩
    have hm := List.mem_of_getElem? hp
    have ev : v = .ref p.1 := by
      rw [← Array.getElem?_toList, hi, List.getElem?_map, hp] at hv
      exact (Option.some.inj hv).symm
    subst ev
    have hnk : ∀ q ∈ L, q.2 ≠ p.2 := fun q hq e => by
      obtain ⟨j, hj⟩ := List.mem_iff_getElem?.mp (pm.mem_iff.mp hq)
      rw [List.getElem?_take] at hj
      split at hj
      · rename_i hji
        have a1 : (ks.map (·.2))[j]? = some q.2 := by rw [List.getElem?_map, hj]; rfl
        have a2 : (ks.map (·.2))[i]? = some p.2 := by rw [List.getElem?_map, hp]; rfl
        exact Nat.ne_of_lt hji ((List.getElem?_inj (by rw [List.length_map]; omega) hn).mp (a1.trans (e ▸ a2.symm)))
      · cases hj
    have hll : L.length = i := by rw [pm.length_eq, List.length_take]; omega
    have hu' : A'.units < cLine := by omega
    unfold setAdd
    refine wpAny_holding (wpAny_bind (wpAny_pyHash_tuple (knd := mixKind P w) hu' (it p hm) ?_))
    refine addK (s := { s' with toks := s'.toks + (p.2.length + 1) }) kops R (it p hm) hnk hu' (by omega) fun h' L' es' ep' t' sb R' pm' => hq h' _ sb ⟨L', es', ep', t', R', ?_, fun q hq' => ?_⟩
    · rw [List.take_add_one, hp]
      exact pm'.trans ((List.Perm.cons _ pm).trans (List.perm_append_singleton _ _).symm)
    · exact kops.keep (it q hq') fun o e => (sb.2 _ (Nat.ne_of_lt (old q hq'))).trans e
end
end Sl
/-! SlSt: sorted(set(xs)) of texts, of (number, number, text); list.index, in a list, list + list, dict(pairs). -/
namespace Sl
open PySem PySem.Spec PyProof.Rows L2 StX RZ
open Evl (Ex ex_l ex_t ex_rd sq_of st_of sz_of sz_lt fresh_back)
/-- names in order -/
def Asc (ss : List Str) : Prop := (ss.map fun s => s.cps.toList).Pairwise (· < ·)
theorem asc_nodup {l : List (List Nat)} (h : l.Pairwise (· < ·)) : l.Nodup := h.imp fun {a b} h e => by
  subst e
  exact absurd h (List.lt_irrefl a)
theorem asc_uniq : ∀ {l m : List (List Nat)}, l.Pairwise (· < ·) → m.Pairwise (· < ·) → l.Perm m → l = m
  | [], m, _, _, p => (List.Perm.nil_eq p)
  | x :: l, [], _, _, p => absurd p.length_eq (by simp)
  | x :: l, y :: m, hl, hm, p => by
    have e : x = y := by
      have h1 : x ∈ y :: m := p.mem_iff.mp List.mem_cons_self
      have h2 : y ∈ x :: l := p.mem_iff.mpr List.mem_cons_self
      rcases List.mem_cons.mp h1 with e | h1
      · exact e
      · rcases List.mem_cons.mp h2 with e | h2
        · exact e.symm
        · exact absurd (List.lt_trans ((List.pairwise_cons.mp hl).1 y h2) ((List.pairwise_cons.mp hm).1 x h1)) (List.lt_irrefl x)
    subst e
    rw [asc_uniq (List.pairwise_cons.mp hl).2 (List.pairwise_cons.mp hm).2 (List.perm_cons x |>.mp p)]
theorem str_ext {a b : Str} (h : a.cps.toList = b.cps.toList) : a = b := by
  cases a
  cases b
  congr
  exact Array.ext' h
theorem Asc.uniq {a b : List Str} (ha : Asc a) (hb : Asc b) (p : a.Perm b) : a = b := by
  have h := asc_uniq ha hb (p.map _)
  clear ha hb p
  induction a generalizing b with
  | nil =>
    cases b with
    | nil => rfl
    | cons _ _ => simp at h
  | cons x a ih =>
    cases b with
    | nil => simp at h
    | cons y b =>
      simp only [List.map_cons, List.cons.injEq] at h
      rw [str_ext h.1, ih h.2]
def tSS (K : PySem.W.Frag) (te : TE) : TE := fun σ H Q => te σ H fun x H1 => ∃ (l : Addr) (ss : List Str), x = .ref l ∧ SqL K H1 l (ss.map V.str) ∧ ss.Nodup ∧ ss.length < 60 ∧
  ∀ ys p, ys.Perm ss → Asc ys → H1 p = none → Q (.ref p) (upd H1 p (.lst (ys.map V.str)))
/-- (number, number, text) at an address -/
abbrev KA := Addr × (Int × Int × Str)
def k3 (k : Int × Int × Str) : List V := [.int k.1, .int k.2.1, .str k.2.2]
/-- one class, one weight -/
def tST (K : PySem.W.Frag) (te : TE) : TE := fun σ H Q => te σ H fun x H1 => ∃ (l : Addr) (ks : List KA) (r w : Int), x = .ref l ∧ SqL K H1 l (ks.map fun k => V.ref k.1) ∧ (∀ k ∈ ks, SqT K H1 k.1 (k3 k.2) ∧ k.2.1 = r ∧ k.2.2.1 = w) ∧ (ks.map fun k => k.2.2.2).Nodup ∧ ks.length < 60 ∧
  ∀ (ys : List KA) p, ys.Perm ks → Asc (ys.map fun k => k.2.2.2) → H1 p = none → Q (.ref p) (upd H1 p (.lst (ys.map fun k => V.ref k.1)))
section
variable {X : Cx} {e : Expr} {te : TE} {p p2 pos pos2 : Pos}
theorem inv_laidS {pins : List (Addr × Obj)} {σ : L2.St} {H : Hp} {s s' : Shared} {q : Addr} {o : HO} (I : Inv X pins σ H s) (k : ∀ b o, s.heap.get? b = some o → s'.heap.get? b = some o) (g : s'.gens = s.gens) (os : s'.os = s.os) (hp : s.heap.objs.size ≤ q) (new : ObjOk X.prog X.w (upd H q o) s'.heap q o) :
    Inv X pins σ (upd H q o) s' := I.call' (ch := []) os (Un.laid k hp (I.hok.fresh hp)) (I.hok.laid k hp new) (by rw [g]; exact I.bare) (fun _ z => nomatch z)
theorem each_perm {α β : Type} {R : α → β → Prop} {us us' : List α} (p : us.Perm us') : ∀ {bs : List β}, PySem.W.EachIs R us bs → ∃ bs', bs'.Perm bs ∧ PySem.W.EachIs R us' bs' := by
  induction p with
  | nil => exact fun {bs} h => ⟨bs, .refl _, h⟩
  | cons x _ ih =>
    intro bs h
    cases h with
    | cons h1 h2 =>
      obtain ⟨cs, p, e⟩ := ih h2
      exact ⟨_, p.cons _, .cons h1 e⟩
  | swap x y l =>
    intro bs h
    cases h with
    | cons h1 h2 =>
      cases h2 with
      | cons h3 h4 => exact ⟨_, .swap _ _ _, .cons h3 (.cons h1 h4)⟩
  | trans _ _ ih1 ih2 =>
    intro bs h
    obtain ⟨cs, p1, e1⟩ := ih1 h
    obtain ⟨ds, p2, e2⟩ := ih2 e1
    exact ⟨ds, p2.trans p1, e2⟩
theorem each_str : ∀ {ss : List Str} {us : List Value}, Vals (ss.map V.str) us → PySem.W.EachIs (fun v b => ∃ u, v = Value.str b u) us ss
  | [], _, r => by
    cases r
    exact .nil
  | x :: ss, _, r => by
    cases r with
    | cons r1 r2 => exact .cons r1 (each_str r2)
theorem vals_each : ∀ {ss : List Str} {us : List Value}, PySem.W.EachIs (fun v b => ∃ u, v = Value.str b u) us ss → Vals (ss.map V.str) us
  | _, _, .nil => .nil
  | _, _, .cons h1 h2 => .cons h1 (vals_each h2)
theorem asc_sort {ss cs : List Str} (nd : ss.Nodup) (p : cs.Perm ss) : Asc (cs.mergeSort (PySem.W.dataLe false PyData.str)) := by
  have e : PySem.W.dataLe false PyData.str = fun a b : Str => decide (a.cps.toList ≤ b.cps.toList) := PySem.W.dataLe_str (fun b : Str => b)
  rw [e]
  have h := List.pairwise_mergeSort (le := fun a b : Str => decide (a.cps.toList ≤ b.cps.toList)) (fun a b c h1 h2 => decide_eq_true (List.le_trans (of_decide_eq_true h1) (of_decide_eq_true h2))) (fun a b => by
    rw [Bool.or_eq_true, decide_eq_true_iff, decide_eq_true_iff]
    exact List.le_total _ _) cs
  have nd2 : (cs.mergeSort fun a b : Str => decide (a.cps.toList ≤ b.cps.toList)).Nodup := ((List.mergeSort_perm cs _).trans p).nodup_iff.mpr nd
  unfold Asc
  rw [List.pairwise_map]
  refine (h.and nd2).imp fun {a b} ⟨h1, h2⟩ => ?_
  rcases List.le_iff_lt_or_eq.mp (of_decide_eq_true h1) with h | h
  · exact h
  · exact absurd (str_ext h) h2
/-- sorted(set(e)): by the two calls -/
theorem pe_sset {t : V → Hp → VK → Prop} (h1 : X.mg "sorted" = none) (h2 : X.mg "set" = none) (he : PE X e te) (hg : Gl X "sorted") (hg2 : Gl X "set") (hs2 : starEach [e] X.env = [(false, eval e X.env)])
    (core : ∀ (pins : List (Addr × Obj)) (s : Shared) (σ : L2.St) (H : Hp) (v : V) (u : Value) (Q : VK), Inv X pins σ H s → RelV v u → t v H Q →
      wpAny (model X.prog X.w) X.A (call (.type "set") [u]) (fun u2 s2 => wpAny (model X.prog X.w) X.A (call (.builtin "sorted") [u2]) (fun u3 s3 => ∃ v3 H3, Inv X pins σ H3 s3 ∧ RelV v3 u3 ∧ Q v3 H3) X.xe s2) X.xe s) :
    PE X (.Call (.Name "sorted" p) [.Call (.Name "set" p2) [e] [] pos2] [] pos) (fun σ H Q => te σ H fun v H1 => t v H1 Q) := by
  refine ⟨fun pins s σ H Q I h => wpAny_Call_Name_kw (ld_blt I hg h1 (u := .builtin "sorted") (by decide +kernel) (PyProof.Rows.callWith_builtin1 (Calls.spliced_cons ?_) (by rfl) (by rfl)))⟩
  refine wpAny_Call_Name_kw (ld_blt I hg2 h2 (u := .type "set") (by decide +kernel) (PyProof.Rows.callWith_type1 ?_ (by rw [hs2]; rfl) (by rfl)))
  rw [hs2]
  refine Calls.spliced_cons (thn (he.run pins s σ H _ I h) fun u s1 ⟨v, H1, I1, r1, q1⟩ => Calls.spliced_nil ?_)
  exact wpAny_mono (core pins s1 σ H1 v u Q I1 r1 q1) (fun u2 s2 h2 => Calls.spliced_nil h2) fun _ _ z => z
theorem pe_sortSS (K : PySem.W.Frag) {mg : Str → Option Value} (h1 : mg "sorted" = none) (h2 : mg "set" = none) (he : PE X e te) (hX : X.K = K ∧ X.mg = mg := by exact ⟨rfl, rfl⟩) (hc : X.calm = true := by rfl) (hg : Gl X "sorted" := by rfl) (hg2 : Gl X "set" := by rfl) (hs2 : starEach [e] X.env = [(false, eval e X.env)] := by rfl) (hu : X.A.units + 65 < cLine := by assumption) :
    PE X (.Call (.Name "sorted" p) [.Call (.Name "set" p2) [e] [] pos2] [] pos) (tSS K te) := by
  obtain ⟨rfl, rfl⟩ := hX
  refine pe_sset (t := fun x H1 Q => ∃ (l : Addr) (ss : List Str), x = .ref l ∧ SqL X.K H1 l (ss.map V.str) ∧ ss.Nodup ∧ ss.length < 60 ∧ ∀ ys p, ys.Perm ss → Asc ys → H1 p = none → Q (.ref p) (upd H1 p (.lst (ys.map V.str)))) h1 h2 he hg hg2 hs2 fun pins s σ H v u Q I r ⟨l, ss, ev, hl, nd, hb, q⟩ => ?_
  subst ev
  cases r
  obtain ⟨its, rv, pl, _⟩ := I.list hl
  refine call_set_txt (items := its.toArray) (I.ok.hd hc) pl.isList rv nd (Nat.lt_trans (show ss.length + 1 < 64 by omega) (by decide)) fun h' tk ⟨D, e1, e2, e3, e4, e5⟩ kp => ?_
  have I2 : Inv X pins σ H { s with heap := h', toks := tk } := I.kept (t' := tk) kp
  obtain ⟨es, ep, t⟩ := D
  have hsz : es.size = ss.length := by
    have := e2.sz
    rw [List.length_reverse, List.take_of_length_le (Nat.le_refl _)] at this
    exact this
  refine sorted_setG (s := { s with heap := h', toks := tk }) (Rv := fun v b => ∃ u, v = .str b u) (enc := PyData.str) (bs := ss) (I.ok.hd hc) ⟨_, e1, rfl, rfl⟩ e2.fit (Nat.lt_trans (show es.size < 64 by omega) (by decide)) e3 e4 (fun out po => ?_) (fun _ _ => rfl) (fun cs => PySem.W.Sortable.others fun b => ⟨(fun z => nomatch z), fun xs z => nomatch z⟩) (by omega) (fun b hb => ?_) fun s' p out c cs k1 g1 o1 hp hl2 pc eo => ?_
  · have po' : its.Perm out := by
      have : (its.toArray.toList.take ss.length) = its := by
        rw [List.take_of_length_le]
        have := rv.length
        rw [List.length_map] at this
        show its.length ≤ _
        omega
      rw [this] at e5
      exact (po.trans e5).symm
    obtain ⟨cs, pc, ec⟩ := each_perm po' (each_str rv)
    exact ⟨cs, pc, ec.mono fun v b h => ⟨h, by obtain ⟨u, rfl⟩ := h; exact ⟨[], .str b u⟩⟩⟩
  · show X.A.units + 4 + 0 < cLine
    omega
  · have hcs : (cs.mergeSort (PySem.W.dataLe false PyData.str)).Perm ss := (List.mergeSort_perm cs _).trans pc
    have hn : H p = none := I2.hok.fresh hp
    have hz : ((cs.mergeSort (PySem.W.dataLe false PyData.str)).map V.str).length ≤ sizeLine := by
      rw [List.length_map, hcs.length_eq, sizeLine_eq]
      omega
    exact ⟨.ref p, _, inv_laidS (o := .lst ((cs.mergeSort (PySem.W.dataLe false PyData.str)).map V.str)) I2 k1 g1 o1 hp ⟨hz, out, c, vals_each eo, hl2⟩, rfl, q _ p hcs (asc_sort nd pc) hn⟩
theorem each_map {α β : Type} {R : α → β → Prop} {f : β → α} : ∀ {l : List β}, (∀ k ∈ l, R (f k) k) → PySem.W.EachIs R (l.map f) l
  | [], _ => .nil
  | _ :: _, h => .cons (h _ List.mem_cons_self) (each_map fun q hq => h q (List.mem_cons_of_mem _ hq))
theorem refs_vals {α : Type} (f : α → Addr) : ∀ {l : List α} {us : List Value}, Vals (l.map fun k => V.ref (f k)) us → us = l.map fun k => Value.ref (f k)
  | [], _, h => by
    cases h
    rfl
  | _ :: _, _, h => by
    cases h with
    | cons h1 h2 => rw [List.map_cons, ← refs_vals f h2, show _ = Value.ref _ from h1]
def encN (r w : Int) (k : KA) : PyData := .tuple [.int r, .int w, .str k.2.2.2]
open PySem.W in
theorem encN_le (r w : Int) : dataLe false (encN r w) = fun a b : KA => decide (a.2.2.2.cps.toList ≤ b.2.2.2.cps.toList) := by
  rw [← dataLe_str (fun k : KA => k.2.2.2)]
  funext a b
  show (!dataLt (encN r w b) (encN r w a)) = !dataLt (.str b.2.2.2) (.str a.2.2.2)
  unfold encN
  rw [dataLt_tuple, dataLt_cons (by simp [alike]), dataLt_cons (by simp [alike]), dataLt_cons (by simp [alike]), lex_irrefl]
  simp only [PyData.eqv, beq_self_eq_true, if_true, beq_iff_eq]
  split
  · rename_i e
    rw [dataLt_str, e]
    rw [decide_eq_false (List.lt_irrefl _)]
  · rfl
def kk (k : Int × Int × Str) : List Key := [.inl k.1, .inl k.2.1, .inr k.2.2]
theorem kt_reads {P : Program} {w : World} {h : Heap} {k : KA} (x : IsKT P w h (kk k.2) k.1) : Reads h (.ref k.1) (encN k.2.1 k.2.2.1 k) ([] ++ ([] ++ ([] ++ []))) := by
  obtain ⟨o, items, n, ho, hc, hd, hi⟩ := x
  refine .tuple ho hc hd ?_
  generalize items.toList = us at hi
  cases hi with
  | cons h1 hi =>
    cases hi with
    | cons h2 hi =>
      cases hi with
      | cons h3 hi =>
        cases hi
        rcases keyIs_shape (k := (Sum.inl k.2.1)) (show keyIs _ _ = true from h1) with ⟨i, t, e, rfl⟩ | ⟨_, _, e, _⟩
        · rcases keyIs_shape (k := (Sum.inl k.2.2.1)) (show keyIs _ _ = true from h2) with ⟨j, t2, e2, rfl⟩ | ⟨_, _, e2, _⟩
          · rcases keyIs_shape (k := (Sum.inr k.2.2.2)) (show keyIs _ _ = true from h3) with ⟨_, _, e3, _⟩ | ⟨x, t3, e3, rfl⟩
            · cases e3
            · cases e
              cases e2
              cases e3
              exact .cons (.int _ _) (.cons (.int _ _) (.cons (.str _ _) .nil))
          · cases e2
        · cases e
theorem asc_sortK {ks cs : List KA} (r w : Int) (nd : (ks.map fun k => k.2.2.2).Nodup) (p : cs.Perm ks) : Asc ((cs.mergeSort (PySem.W.dataLe false (encN r w))).map fun k => k.2.2.2) := by
  rw [encN_le]
  have h := List.pairwise_mergeSort (le := fun a b : KA => decide (a.2.2.2.cps.toList ≤ b.2.2.2.cps.toList)) (fun a b c h1 h2 => decide_eq_true (List.le_trans (of_decide_eq_true h1) (of_decide_eq_true h2))) (fun a b => by
    rw [Bool.or_eq_true, decide_eq_true_iff, decide_eq_true_iff]
    exact List.le_total _ _) cs
  have nd2 := (((List.mergeSort_perm cs fun a b : KA => decide (a.2.2.2.cps.toList ≤ b.2.2.2.cps.toList)).trans p).map fun k => k.2.2.2).nodup_iff.mpr nd
  have nd3 := List.pairwise_map.mp nd2
  unfold Asc
  rw [List.map_map, List.pairwise_map]
  refine (h.and nd3).imp fun {a b} ⟨h1, h2⟩ => ?_
  rcases List.le_iff_lt_or_eq.mp (of_decide_eq_true h1) with h | h
  · exact h
  · exact absurd (str_ext h) h2
theorem pe_sortST (K : PySem.W.Frag) {mg : Str → Option Value} (h1 : mg "sorted" = none) (h2 : mg "set" = none) (he : PE X e te) (hX : X.K = K ∧ X.mg = mg := by exact ⟨rfl, rfl⟩) (hc : X.calm = true := by rfl) (hg : Gl X "sorted" := by rfl) (hg2 : Gl X "set" := by rfl) (hs2 : starEach [e] X.env = [(false, eval e X.env)] := by rfl) (hu : X.A.units + 65 < cLine := by assumption) :
    PE X (.Call (.Name "sorted" p) [.Call (.Name "set" p2) [e] [] pos2] [] pos) (tST K te) := by
  obtain ⟨rfl, rfl⟩ := hX
  refine pe_sset (t := fun x H1 Q => ∃ (l : Addr) (ks : List KA) (r w : Int), x = .ref l ∧ SqL X.K H1 l (ks.map fun k => V.ref k.1) ∧ (∀ k ∈ ks, SqT X.K H1 k.1 (k3 k.2) ∧ k.2.1 = r ∧ k.2.2.1 = w) ∧ (ks.map fun k => k.2.2.2).Nodup ∧ ks.length < 60 ∧
    ∀ (ys : List KA) p, ys.Perm ks → Asc (ys.map fun k => k.2.2.2) → H1 p = none → Q (.ref p) (upd H1 p (.lst (ys.map fun k => V.ref k.1)))) h1 h2 he hg hg2 hs2 fun pins s σ H v u Q I r ⟨l, ks, r0, w0, ev, hl, hks, nd, hb, q⟩ => ?_
  subst ev
  cases r
  obtain ⟨its, rv, pl, _⟩ := I.list hl
  have hits := refs_vals (fun k : KA => k.1) rv
  have hk1 : ∀ k ∈ ks, IsKT X.prog X.w s.heap (kk k.2) k.1 := fun k hk => by
    obtain ⟨us, ru, ⟨o, ho, hc, n, hd⟩, _⟩ := I.tuple (hks k hk).1
    exact ⟨o, us.toArray, n, ho, hc, hd, items_are (ks := kk k.2) ru⟩
  have nd1 : ((ks.map fun k => (k.1, kk k.2)).map (·.2)).Nodup := by
    rw [List.map_map]
    refine List.pairwise_map.mpr ((List.pairwise_map.mp nd).imp fun {a b} h e => h ?_)
    have e' : kk a.2 = kk b.2 := e
    unfold kk at e'
    simp only [List.cons.injEq, Sum.inr.injEq] at e'
    exact e'.2.2.1
  refine call_set_kt (items := its.toArray) (ks := ks.map fun k => (k.1, kk k.2)) (I.ok.hd hc) (by omega) pl.isList (by
    rw [List.map_map]
    exact hits) (fun p hp => by
    obtain ⟨k, hk, rfl⟩ := List.mem_map.mp hp
    exact hk1 k hk) nd1 (by rw [List.length_map]; omega) fun h' tk ⟨L, es, ep, t, R, pm, it⟩ kp => ?_
  have I2 : Inv X pins σ H { s with heap := h', toks := tk } := I.kept (t' := tk) kp
  have pm' : L.Perm (ks.map fun k => (k.1, kk k.2)) := by
    rwa [List.take_of_length_le (Nat.le_refl _)] at pm
  have hsz : es.size = ks.length := by
    rw [rowsK_len R.rows, pm'.length_eq, List.length_map]
  have hvs : (es.toList.map (·.2)).Perm (ks.map fun k => Value.ref k.1) := by
    rw [R.rows]
    unfold rowsK
    rw [List.map_map]
    have := pm'.map fun p => Value.ref p.1
    rw [List.map_map] at this
    exact this
  obtain ⟨o, ho, hex, hd⟩ := R.ob
  refine sorted_setG (s := { s with heap := h', toks := tk }) (Rv := fun v (k : KA) => v = .ref k.1) (enc := encN r0 w0) (bs := ks) (I.ok.hd hc) ⟨o, ho, hex.1, hd⟩ (R.fits (s := { s with heap := h', toks := tk })) (Nat.lt_trans (show es.size < 64 by omega) (by decide)) R.tab.ris R.ld (fun out po => ?_) (fun _ _ => ?_) (fun cs => PySem.W.Sortable.tuples fun b => ⟨_, _, rfl⟩) (by omega) (fun b hb => ?_) fun s' p out c cs k1 g1 o1 hp hl2 pc eo => ?_
  · have e0 : PySem.W.EachIs (fun v (b : KA) => v = .ref b.1 ∧ ∃ as, Reads h' v (encN r0 w0 b) as) (ks.map fun k => Value.ref k.1) ks := each_map fun k hk => ⟨rfl, _, by
      obtain ⟨_, e1, e2⟩ := hks k hk
      rw [← e1, ← e2]
      exact kt_reads (it (k.1, kk k.2) (List.mem_map.mpr ⟨k, hk, rfl⟩))⟩
    exact each_perm (po.trans hvs).symm e0
  · simp [encN, PySem.W.alike, PySem.W.alikeAll]
  · show X.A.units + 4 + _ < cLine
    have : (encN r0 w0 b).depth = 1 := by simp [encN, PyData.depth, PyData.depthAll]
    omega
  · have hcs : (cs.mergeSort (PySem.W.dataLe false (encN r0 w0))).Perm ks := (List.mergeSort_perm cs _).trans pc
    have hn : H p = none := I2.hok.fresh hp
    have hz : ((cs.mergeSort (PySem.W.dataLe false (encN r0 w0))).map fun k => V.ref k.1).length ≤ sizeLine := by
      rw [List.length_map, hcs.length_eq, sizeLine_eq]
      omega
    have vals : ∀ {us : List Value} {ys : List KA}, PySem.W.EachIs (fun v (k : KA) => v = .ref k.1) us ys → Vals (ys.map fun k => V.ref k.1) us := fun {us ys} h => by
      induction h with
      | nil => exact .nil
      | cons h1 _ ih => exact .cons h1 ih
    exact ⟨.ref p, _, inv_laidS (o := .lst ((cs.mergeSort (PySem.W.dataLe false (encN r0 w0))).map fun k => V.ref k.1)) I2 k1 g1 o1 hp ⟨hz, out, c, vals eo, hl2⟩, rfl, q _ p hcs (asc_sortK r0 w0 nd pc) hn⟩
end
section
variable {K : PySem.W.Frag} {ρ : Rho} {ta tb tc te tx : TE} {x y z d : Dt}
theorem strs_all2 {H : Hp} {ns : List Str} {vs : List V} (h : All2 H (ns.map fun n => dS n) vs) : vs = ns.map V.str := All2.vals V.str h
theorem ed_sortSS {ss ys : List Str} (h : Ed te ρ (dLst K (ss.map fun s => dS s))) (hp : ys.Perm ss) (ha : Asc ys) (hl : ss.length < 60) : Ed (tSS K te) ρ (dLst K (ys.map fun s => dS s)) := fun H σ e Q q =>
  h H σ e _ fun v H1 e1 ⟨p, vs, a, b, c⟩ => by
    have hv := strs_all2 c
    subst hv
    refine ⟨p, ss, a, sq_of b, ?_, hl, fun zs n hz az hn => ?_⟩
    · have := asc_nodup ha
      exact hp.nodup_iff.mp (List.Pairwise.of_map _ (fun _ _ h e => h (congrArg (fun s : Str => s.cps.toList) e)) this)
    · have := Asc.uniq az ha (hz.trans hp.symm)
      subst this
      exact q _ _ (e1.trans (Ex.new hn)) ⟨n, _, rfl, upd_same, All2.of_vals V.str _⟩
theorem ed_index {ss : List Str} {s : Str} {j : Nat} (h : Ed ta ρ (dLst K (ss.map fun s => dS s))) (hj : ss[j]? = some s) (hn : ss.Nodup) (he : Ed tb ρ (dS s)) : Ed (tBM K "list" (rIndex K) ta (tCons tb tNil)) ρ (dI (j : Int)) := fun H σ e Q q =>
  h H σ e _ fun v H1 e1 ⟨p, vs, a, b, c⟩ => by
    have hv := strs_all2 c
    subst hv
    subst a
    refine ⟨.inl ⟨rfl, _, sq_of b⟩, he H1 σ (e.mono e1) _ fun u H2 e2 pu => ?_⟩
    have pu' : u = .str s := pu
    subst pu'
    refine ⟨p, ss.map V.str, .str s, j, .str s, rfl, rfl, sq_of (e2 _ _ b), rfl, ?_, by rw [List.getElem?_map, hj]; rfl, by show (s == s) = true; exact beq_self_eq_true s, fun m z hm hz => ?_, q _ H2 (e1.trans e2) rfl⟩
    · rw [List.all_map]
      exact List.all_eq_true.mpr fun _ _ => rfl
    · rw [List.getElem?_map] at hz
      cases hz1 : ss[m]? with
      | none =>
        rw [hz1] at hz
        cases hz
      | some s' =>
        rw [hz1] at hz
        cases hz
        show (s' == s) = false
        refine beq_eq_false_iff_ne.mpr fun es => ?_
        subst es
        obtain ⟨l1, g1⟩ := List.getElem?_eq_some_iff.mp hj
        obtain ⟨l2, g2⟩ := List.getElem?_eq_some_iff.mp hz1
        have := (List.getElem_inj (h₀ := l2) (h₁ := l1) hn).mp (g2.trans g1.symm)
        omega
/-- in a list of data -/
def rInLD (K : PySem.W.Frag) (neg : Bool) : R2 := fun x y H Q => ∃ d ds, Dp K H x d ∧ Dp K H y (.list ds) ∧ SeqAt.shaped d = true ∧ PyData.canLayAll0 ds = true ∧ Q (.bl (if neg then !ds.any fun z => PyData.eqv z d else ds.any fun z => PyData.eqv z d)) H
theorem op_notInLD {X : Cx} (hu : X.A.units + 65 < cLine) : OpR X (compareOp .NotIn) (rInLD X.K true) := by
  intro pins s σ H x y v u Q I rx ry h
  obtain ⟨d, ds, hd, he, sd, se, q⟩ := h
  obtain ⟨as, r1⟩ := Dp.reads I d x v hd rx
  obtain ⟨bs, r2⟩ := Dp.reads I (.list ds) y u he ry
  exact SeqAt.notIn_list_reads r2 r1 se (SeqAt.canLay_of_shaped sd) (room_in_shaped sd hu) ⟨.bl _, H, I, rfl, q⟩
theorem opK_notInLD {X : Cx} {A : Around} (K : PySem.W.Frag) (hu : A.units + 65 < cLine) (hX : X.K = K ∧ X.A = A := by exact ⟨rfl, rfl⟩) : OpR X (compareOp .NotIn) (rInLD K true) := by
  obtain ⟨rfl, rfl⟩ := hX
  exact op_notInLD hu
theorem ed_notinPL {p : Int × Int} {bs : List (Int × Int)} (ha : Ed ta ρ (nTupI (pairI p))) (hb : Ed tb ρ (dLst K (bs.map fun p => tupI K (pairI p)))) : Ed (tOp (rInLD K true) ta tb) ρ (dB (!decide (p ∈ bs))) := ed_op (ed_w (K := K) ha) hb fun H u v hu hv Q k =>
  ⟨pairP p, bs.map pairP, pd_pair p H u hu, pd_lstM bs (fun q => pd_pair q) H v hv, pairP_shaped p, pairPs_lay bs, k _ H (Ex.refl H) (by show V.bl _ = V.bl _; rw [any_pair]; rfl)⟩
theorem ed_catL {ds es : List Dt} (ha : Ed ta ρ (dLst K ds)) (hb : Ed tb ρ (dLst K es)) (hl : ds.length + es.length ≤ 100000) : Ed (tOp rCat ta tb) ρ (dLst K (ds ++ es)) := ed_op ha hb fun H u v ⟨p, vs, a1, b1, c1⟩ ⟨q, us, a2, b2, c2⟩ Q k =>
  ⟨p, q, vs, us, a1, a2, b1, b2, sz_of (by rw [← c1.len, ← c2.len]; exact hl), fun n hn => k _ _ (Ex.new hn) ⟨n, vs ++ us, rfl, upd_same, (c1.app c2).mono (Ex.new hn)⟩⟩
theorem ed_eqP {p q : Int × Int} (ha : Ed ta ρ (tupI K (pairI p))) (hb : Ed tb ρ (tupI K (pairI q))) : Ed (tOp (rEqD K) ta tb) ρ (dB (decide (p = q))) := by
  rw [← pairP_eqv]
  exact ed_eqD ha hb (pd_pair p) (pd_pair q) (pairP_shaped p) (pairP_shaped q)
end
end Sl
/-! SlDc: dicts by name with any data; dict(pairs) of names, of pairs. -/
namespace Sl
open PySem PySem.Spec PyProof.Rows L2 StX RZ
open Evl (Ex ex_l ex_t ex_rd sq_of st_of sz_of sz_lt fresh_back)
/-- a dict: its names, the data -/
def DKnP (kds : List (Str × Dt)) (H : Hp) (v : V) : Prop := ∃ (a : Addr) (kvs : List (Key × V)), v = .ref a ∧ H a = some (.dK kvs) ∧ kvs.map (·.1) = kds.map (fun k => (Sum.inr k.1 : Key)) ∧ All2 H (kds.map (·.2)) (kvs.map (·.2))
def dDKn (kds : List (Str × Dt)) : Dt := ⟨DKnP kds, fun e h => by
  obtain ⟨a, kvs, h1, h2, h3, h4⟩ := h
  exact ⟨a, kvs, h1, e _ _ h2, h3, h4.mono e⟩⟩
theorem inr_map (kds : List (Str × Dt)) : (kds.map fun k => (Sum.inr k.1 : Key)) = (kds.map (·.1)).map fun s => (Sum.inr s : Key) := by
  rw [List.map_map]
  rfl
section
variable {K : PySem.W.Frag} {ρ : Rho} {ta tb tc te tx : TE} {x y z d : Dt}
theorem valV_at {κ : Type} [DecidableEq κ] : ∀ {kvs : List (κ × V)} {j : Nat} {k : κ} {v : V}, (kvs.map (·.1)).Nodup → kvs[j]? = some (k, v) → valV kvs k = some v
  | [], _, _, _, _, h => by simp at h
  | p :: r, 0, k, v, nd, h => by
    have h' : p = (k, v) := by simpa using h
    subst h'
    exact valV_pos rfl
  | p :: r, j + 1, k, v, nd, h => by
    have nd' := List.nodup_cons.mp nd
    have h' : r[j]? = some (k, v) := by simpa using h
    have ne : ¬ p.1 = k := fun e => nd'.1 (by
      show p.1 ∈ _
      rw [e]
      exact List.mem_map.mpr ⟨(k, v), List.mem_of_getElem? h', rfl⟩)
    rw [valV_neg ne]
    exact valV_at nd'.2 h'
theorem inr_nodup {l : List Str} (h : l.Nodup) : (l.map fun s => (Sum.inr s : Key)).Nodup := by
  refine List.Pairwise.map _ (fun a b hne e => hne (Sum.inr.inj e)) h
theorem ed_dgetN {kds : List (Str × Dt)} {s : Str} (ha : Ed ta ρ (dDKn kds)) (hb : Ed tb ρ (dS s)) (nd : (kds.map (·.1)).Nodup) (h : (s, d) ∈ kds) : Ed (tDGet ta tb) ρ d := fun H σ e Q q =>
  ha H σ e _ fun u H1 e1 ⟨a, kvs, h1, h2, h3, h4⟩ => hb H1 σ (e.mono e1) _ fun w H2 e2 p => by
    have p' : w = .str s := p
    subst p'
    obtain ⟨j, hj⟩ := List.getElem?_of_mem h
    have hd : (kds.map (·.2))[j]? = some d := by rw [List.getElem?_map, hj]; rfl
    obtain ⟨v, hv, pv⟩ := h4.get hd
    have hk : (kvs.map (·.1))[j]? = some (Sum.inr s : Key) := by rw [h3, List.getElem?_map, hj]; rfl
    have hq : kvs[j]? = some (Sum.inr s, v) := by
      rw [List.getElem?_map] at hk hv
      cases q1 : kvs[j]? with
      | none =>
        rw [q1] at hk
        cases hk
      | some kv =>
        rw [q1] at hk hv
        have a1 : kv.1 = Sum.inr s := Option.some.inj hk
        have a2 : kv.2 = v := Option.some.inj hv
        rw [← a1, ← a2]
    have hn : (kvs.map (·.1)).Nodup := by
      rw [h3, inr_map]
      exact inr_nodup nd
    have hvv := valV_at hn hq
    exact ⟨a, v, h1, hvv ▸ DGet.k (k := Sum.inr s) (e2 _ _ h2), q v H2 (e1.trans e2) (d.mono e2 pv)⟩
abbrev rDictP (K : PySem.W.Frag) : List V → Hp → VK → Prop := fun xs H Q => ∃ (a : Addr) (ps : List Addr) (kvs : List (Key × V)), xs = [.ref a] ∧ SqL K H a (ps.map V.ref) ∧ Paired (fun p kv => SqT K H p [kV kv.1, kv.2]) ps kvs ∧
    ∀ p, H p = none → Q (.ref p) (upd H p (.dK (mergeK [] kvs)))
theorem crK_dictP {X : Cx} (K : PySem.W.Frag) (hX : X.K = K := by rfl) (hc : X.calm = true := by rfl) : CallR X (.type "dict") (rDictP K) := hX ▸ call_dictP hc
theorem putK_new {κ : Type} [DecidableEq κ] {kvs : List (κ × V)} {k : κ} {v : V} (h : k ∉ kvs.map (·.1)) : putK kvs k v = kvs ++ [(k, v)] := by
  unfold putK
  rw [if_neg]
  intro e
  obtain ⟨p, hp, e2⟩ := List.any_eq_true.mp e
  exact h (List.mem_map.mpr ⟨p, hp, of_decide_eq_true e2⟩)
theorem mergeK_new : ∀ (more kvs : List (Key × V)), ((kvs ++ more).map (·.1)).Nodup → mergeK kvs more = kvs ++ more
  | [], kvs, _ => by rw [List.append_nil]; rfl
  | p :: more, kvs, nd => by
    show mergeK (putK kvs p.1 p.2) more = _
    have hn : p.1 ∉ kvs.map (·.1) := fun hm => by
      rw [List.map_append, List.nodup_append] at nd
      exact nd.2.2 _ hm _ (by simp) rfl
    rw [putK_new hn, mergeK_new more _ (by rw [List.append_assoc]; exact nd), List.append_assoc]
    rfl
/-- dict([(name, x), ..]) -/
theorem cd_dictP {kds : List (Str × Dt)} (nd : (kds.map (·.1)).Nodup) : CD (rDictP K) [dLst K (kds.map fun k => dTup K [dS k.1, k.2])] (dDKn kds) := fun H vs h Q q => by
  obtain ⟨v, rfl, p, us, rfl, b, c⟩ := all2_1 h
  have key : ∀ (l : List (Str × Dt)) (us : List V), All2 H (l.map fun k => dTup K [dS k.1, k.2]) us → ∃ (ps : List Addr) (kvs : List (Key × V)), us = ps.map V.ref ∧ Paired (fun p kv => SqT K H p [kV kv.1, kv.2]) ps kvs ∧ kvs.map (·.1) = l.map (fun k => (Sum.inr k.1 : Key)) ∧ All2 H (l.map (·.2)) (kvs.map (·.2)) := by
    intro l
    induction l with
    | nil =>
      intro us h
      cases us with
      | nil => exact ⟨[], [], rfl, .nil, rfl, True.intro⟩
      | cons _ _ => exact h.elim
    | cons k l ih =>
      intro us h
      cases us with
      | nil => exact h.elim
      | cons u us =>
        obtain ⟨⟨t, ws, rfl, ht, hw⟩, h2⟩ := h
        obtain ⟨w1, w2, rfl, e1, e2⟩ := all2_2 hw
        have e1' : w1 = .str k.1 := e1
        subst e1'
        obtain ⟨ps, kvs, rfl, hp, hk, ha⟩ := ih us h2
        exact ⟨t :: ps, (Sum.inr k.1, w2) :: kvs, rfl, .cons ht hp, by simp [hk], e2, ha⟩
  obtain ⟨ps, kvs, rfl, hp, hk, ha⟩ := key kds us c
  refine ⟨p, ps, kvs, rfl, sq_of b, hp, fun n hn => q _ _ (Ex.new hn) ⟨n, kvs, rfl, ?_, hk, ha.mono (Ex.new hn)⟩⟩
  rw [mergeK_new kvs [] (by
    rw [List.nil_append, hk, inr_map]
    exact inr_nodup nd)]
  exact upd_same
theorem pd_pairN (p : Int × Int) : PD K (nTupI (pairI p)) (pairP p) := fun H v h => pd_pair p H v (nTup_w h)
theorem imm_nTupI (ns : List Int) : Imm (nTupI ns) := fun k ⟨p, vs, a, b, c⟩ => ⟨p, vs, a, k _ _ b soft_tup, c.imm k fun d hd => by
  obtain ⟨n, _, rfl⟩ := List.mem_map.mp hd
  exact imm_V _⟩
/-- dict([((i, j), n), ..]) -/
def rDictT (K : PySem.W.Frag) : List V → Hp → VK → Prop := fun xs H Q => ∃ (a : Addr) (ps : List Addr) (fs : List ((Int × Int) × Int)), xs = [.ref a] ∧ SqL K H a (ps.map V.ref) ∧
  Paired (fun p (f : (Int × Int) × Int) => ∃ b, SqT K H p [.ref b, .int f.2] ∧ H b = some (.tup ((pairI f.1).map V.int))) ps fs ∧ (fs.map (·.1)).Nodup ∧ fs.length ≤ 100 ∧
  ∀ p, H p = none → Q (.ref p) (upd H p (.dT (fs.map fun p => ([Sum.inl p.1.1, Sum.inl p.1.2], V.int p.2))))
abbrev fKey (f : (Int × Int) × Int) : List Key := [.inl f.1.1, .inl f.1.2]
/-- the rows of the new dict -/
theorem far_rows {X : Cx} {pins : List (Addr × Obj)} {σ : L2.St} {H : Hp} {s : Shared} (I : Inv X pins σ H s) : ∀ {ps : List Addr} {fs : List ((Int × Int) × Int)}, Paired (fun p (f : (Int × Int) × Int) => ∃ b, SqT X.K H p [.ref b, .int f.2] ∧ H b = some (.tup ((pairI f.1).map V.int))) ps fs →
    ∃ xs : List (List Key × Addr × Value), Paired (fun (f : (Int × Int) × Int) (x : List Key × Addr × Value) => x.1 = fKey f ∧ H x.2.1 = some (.tup ((fKey f).map kV)) ∧ RelV (.int f.2) x.2.2 ∧ IsTupleKey (mixKind X.prog X.w) s.heap (fKey f) x.2.1) fs xs ∧ Paired (fun p (x : List Key × Addr × Value) => IsTup s.heap p #[.ref x.2.1, x.2.2]) ps xs
  | _, _, .nil => ⟨[], .nil, .nil⟩
  | _, _, .cons (a := p) (b := f) ⟨b, h1, h2⟩ t => by
    obtain ⟨xs, r1, r2⟩ := far_rows I t
    obtain ⟨its, rv, ht, _⟩ := I.tuple h1
    obtain ⟨u, y, ei, ru, ry⟩ := vals2 rv
    subst ei
    cases ru
    obtain ⟨us, rw_, ⟨o, ho, hc, n, hd⟩, _⟩ := I.tuple (SqT.of h2)
    exact ⟨(fKey f, b, y) :: xs, .cons ⟨rfl, h2, ry, o, us.toArray, n, ho, hc, hd, items_are (ks := fKey f) rw_⟩ r1, .cons ht r2⟩
theorem storedAll_new {κ : Type} [DecidableEq κ] : ∀ (ps acc : List (κ × Addr × Value)), ((acc ++ ps).map (·.1)).Nodup → storedAllH acc ps = acc ++ ps
  | [], acc, _ => by rw [List.append_nil]; rfl
  | p :: ps, acc, nd => by
    show storedAllH (storedH acc p.1 p.2.1 p.2.2) ps = _
    have hn : atKey acc p.1 = none := by
      unfold atKey
      rw [List.find?_eq_none.mpr]
      · rfl
      · intro x hx e
        rw [List.map_append, List.nodup_append] at nd
        exact nd.2.2 x.1 (List.mem_map_of_mem hx) p.1 (by simp) (of_decide_eq_true e)
    rw [storedH_new hn, storedAll_new ps _ (by rw [List.append_assoc]; exact nd), List.append_assoc]
    rfl
theorem paired_get {α β : Type} {R : α → β → Prop} : ∀ {xs : List α} {ys : List β}, Paired R xs ys → ∀ (i : Nat) (y : β), ys[i]? = some y → ∃ x, xs[i]? = some x ∧ R x y
  | _, _, .nil, i, y, h => by simp at h
  | _, _, .cons h t, 0, y, e => by
    cases e
    exact ⟨_, rfl, h⟩
  | _, _, .cons h t, i + 1, y, e => paired_get t i y e
theorem far_KT {X : Cx} {H : Hp} {s : Shared} {a : Addr} {o : HO} (hfr : H a = none) : ∀ {fs : List ((Int × Int) × Int)} {xs : List (List Key × Addr × Value)}, Paired (fun (f : (Int × Int) × Int) (x : List Key × Addr × Value) => x.1 = fKey f ∧ H x.2.1 = some (.tup ((fKey f).map kV)) ∧ RelV (.int f.2) x.2.2 ∧ IsTupleKey (mixKind X.prog X.w) s.heap (fKey f) x.2.1) fs xs →
    KT (upd H a o) (fs.map fun p => ([Sum.inl p.1.1, Sum.inl p.1.2], V.int p.2)) xs
  | _, _, .nil => .nil
  | _, _, .cons (b := x) h t => .cons ⟨h.1.symm, (by
      have hne : x.2.1 ≠ a := fun e => by
        have h2 := h.2.1
        rw [e, hfr] at h2
        exact nomatch h2
      rw [upd_ne hne]
      exact h.2.1), h.2.2.1⟩ (far_KT hfr t)
theorem crK_dictT {X : Cx} (K : PySem.W.Frag) (hu : X.A.units + 65 < cLine) (hX : X.K = K := by rfl) (hc : X.calm = true := by rfl) : CallR X (.type "dict") (rDictT K) := by
  subst hX
  intro pins s σ H xs us Q I r q
  obtain ⟨a, ps, fs, ex, hq, hp, nd, hl, q⟩ := q
  subst ex
  obtain ⟨u, eu, rx⟩ := vals1 r
  subst eu
  cases rx
  obtain ⟨its, rv, pl, hz⟩ := I.list hq
  have ei := refs_at rv
  subst ei
  obtain ⟨rs, r1, r2⟩ := far_rows I hp
  have lp : ps.length = rs.length := Paired.length r2
  have lf : fs.length = rs.length := Paired.length r1
  have hkeys : rs.map (·.1) = fs.map fKey := by
    clear hp r2 lp lf nd hl q
    induction r1 with
    | nil => rfl
    | cons h t ih => rw [List.map_cons, List.map_cons, ih, h.1]
  have nd2 : (rs.map (·.1)).Nodup := by
    rw [hkeys]
    have : (fs.map fKey) = (fs.map (·.1)).map fun p => ([.inl p.1, .inl p.2] : List Key) := by rw [List.map_map]; rfl
    rw [this]
    refine List.Pairwise.map _ (fun x y h e => h ?_) nd
    simp only [List.cons.injEq, Sum.inl.injEq, and_true] at e
    exact Prod.ext e.1 e.2
  obtain ⟨o, n, ho, hcl, hd, hdat⟩ := pl
  have lrs : (rs.map fun x => (Value.ref x.2.1, x.2.2)).length = rs.length := List.length_map ..
  refine call_dict_pairsH (knd := tupleKind (mixKind X.prog X.w)) (ps := rs) (PairArg.list a (ps.map Value.ref).toArray (fun j => ps.getD j 0) (rs.map fun x => (Value.ref x.2.1, x.2.2))) (I.ok.hd hc) (show X.A.units + 1 + 1 < cLine by omega) ⟨⟨o, n, ho, hcl, hd, hdat⟩, by simp [lp], fun j k v e => ?_⟩ ⟨lrs.symm, fun i key v e => ?_⟩ (fun h' hk x hx => ?_) (by rw [lrs, sizeLine_eq]; omega) fun h' tk hd' k => ?_
  · obtain ⟨x, hx, e2⟩ : ∃ x, rs[j]? = some x ∧ (Value.ref x.2.1, x.2.2) = (k, v) := by
      rw [List.getElem?_map] at e
      cases hj : rs[j]? with
      | none => rw [hj] at e; cases e
      | some x => rw [hj] at e; exact ⟨x, rfl, Option.some.inj e⟩
    cases e2
    obtain ⟨p, hp1, ht⟩ := paired_get r2 j x hx
    have hg : ps.getD j 0 = p := by rw [List.getD_eq_getElem?_getD, hp1]; rfl
    refine ⟨by simp [hp1], ?_⟩
    show PairAt s.heap (ps.getD j 0) _ _
    rw [hg]
    exact .inl ht
  · obtain ⟨x, hx, e2⟩ : ∃ x, rs[i]? = some x ∧ (Value.ref x.2.1, x.2.2) = (key, v) := by
      have e' : (rs.map fun x => (Value.ref x.2.1, x.2.2))[i]? = some (key, v) := e
      rw [List.getElem?_map] at e'
      cases hj : rs[i]? with
      | none => rw [hj] at e'; cases e'
      | some x => rw [hj] at e'; exact ⟨x, rfl, Option.some.inj e'⟩
    cases e2
    exact ⟨x.1, x.2.1, hx, rfl⟩
  · obtain ⟨i, hi⟩ := List.mem_iff_getElem?.mp hx
    obtain ⟨f, hf, e1, _, _, o', its', n', ho', r'⟩ := paired_get r1 i x hi
    rw [e1]
    exact ⟨o', its', n', hk _ _ (Nat.ne_of_lt (Heap.lt_size ho')) (by simp) ho', r'⟩
  · rw [storedAll_new rs [] nd2, List.nil_append] at hd'
    obtain ⟨o', es, ep, ho', hx', hdt, he, _, hn⟩ := hd'
    have hm : (s.heap.objs.size == sysModules) = false := beq_eq_false_iff_ne.mpr (Nat.ne_of_gt I.big)
    have k' : ∀ b o, s.heap.get? b = some o → h'.get? b = some o := fun b o e => k b o (by simp) e
    refine ⟨.ref s.heap.objs.size, _, I.laid (t' := tk) (o := .dT (fs.map fun p => ([Sum.inl p.1.1, Sum.inl p.1.2], V.int p.2))) k' (Nat.le_refl _) ⟨by rw [List.length_map, sizeLine_eq]; omega, hm, rs, ?_, o', es, ep, ho', hx', hdt, he, hn⟩, rfl, q _ (I.hok.fresh (Nat.le_refl _))⟩
    exact far_KT (I.hok.fresh (Nat.le_refl _)) r1
def farT (K : PySem.W.Frag) (p : (Int × Int) × Int) : Dt := dTup K [nTupI (pairI p.1), dI p.2]
theorem cd_dictT {fs : List ((Int × Int) × Int)} (nd : (fs.map (·.1)).Nodup) (hl : fs.length ≤ 100) : CD (rDictT K) [dLst K (fs.map (farT K))] (dDT (fs.map fun p => ([Sum.inl p.1.1, Sum.inl p.1.2], V.int p.2))) := fun H vs h Q q => by
  obtain ⟨v, rfl, p, us, rfl, b, c⟩ := all2_1 h
  have key : ∀ (l : List ((Int × Int) × Int)) (us : List V), All2 H (l.map (farT K)) us → ∃ ps : List Addr, us = ps.map V.ref ∧ Paired (fun p (f : (Int × Int) × Int) => ∃ b, SqT K H p [.ref b, .int f.2] ∧ H b = some (.tup ((pairI f.1).map V.int))) ps l := by
    intro l
    induction l with
    | nil =>
      intro us h
      cases us with
      | nil => exact ⟨[], rfl, .nil⟩
      | cons _ _ => exact h.elim
    | cons k l ih =>
      intro us h
      cases us with
      | nil => exact h.elim
      | cons u us =>
        obtain ⟨⟨t, ws, rfl, ht, hw⟩, h2⟩ := h
        obtain ⟨w1, w2, rfl, ⟨b, xs, rfl, hb, hx⟩, e2⟩ := all2_2 hw
        have hx' := ints_all2 hx
        subst hx'
        have e2' : w2 = .int k.2 := e2
        subst e2'
        obtain ⟨ps, rfl, hp⟩ := ih us h2
        exact ⟨t :: ps, rfl, .cons ⟨b, ht, hb⟩ hp⟩
  obtain ⟨ps, rfl, hp⟩ := key fs us c
  exact ⟨p, ps, fs, rfl, sq_of b, hp, nd, hl, fun n hn => q _ _ (Ex.new hn) ⟨n, rfl, upd_same⟩⟩
/-- sorted(set(keys)): one class, one weight -/
theorem ed_sortST {ks ys : List (Int × Int × Str)} {r w : Int} (h : Ed te ρ (dLst K (ks.map (keyD K)))) (h1 : ∀ k ∈ ks, k.1 = r ∧ k.2.1 = w) (hp : ys.Perm ks) (ha : Asc (ys.map fun k => k.2.2)) (hl : ks.length < 60) : Ed (tST K te) ρ (dLst K (ys.map (keyD K))) := fun H σ e Q q =>
  h H σ e _ fun v H1 e1 ⟨p, vs, a, b, c⟩ => by
    have key : ∀ (l : List (Int × Int × Str)) (us : List V), All2 H1 (l.map (keyD K)) us → ∃ ks : List KA, us = ks.map (fun k => V.ref k.1) ∧ ks.map (·.2) = l ∧ ∀ k ∈ ks, SqT K H1 k.1 (k3 k.2) := by
      intro l
      induction l with
      | nil =>
        intro us h
        cases us with
        | nil => exact ⟨[], rfl, rfl, (fun _ h => nomatch h)⟩
        | cons _ _ => exact h.elim
      | cons k l ih =>
        intro us h
        cases us with
        | nil => exact h.elim
        | cons u us =>
          obtain ⟨⟨t, ws, rfl, ht, hw⟩, h2⟩ := h
          obtain ⟨w1, w2, w3, rfl, e1, e2, e3⟩ := all2_3 hw
          have e1' : w1 = .int k.1 := e1
          have e2' : w2 = .int k.2.1 := e2
          have e3' : w3 = .str k.2.2 := e3
          subst e1' e2' e3'
          obtain ⟨ks, rfl, hk, hs⟩ := ih us h2
          exact ⟨(t, k) :: ks, rfl, by simp [hk], fun q hq => by
            rcases List.mem_cons.mp hq with rfl | hq
            · exact ht
            · exact hs q hq⟩
    obtain ⟨kas, rfl, hk, hs⟩ := key ks vs c
    have nd : (kas.map fun k => k.2.2.2).Nodup := by
      have e1 : (kas.map fun k => k.2.2.2) = ks.map fun k => k.2.2 := by rw [← hk, List.map_map]; rfl
      rw [e1]
      have := asc_nodup ha
      exact (hp.map _).nodup_iff.mp (List.Pairwise.of_map _ (fun _ _ h e => h (congrArg (fun s : Str => s.cps.toList) e)) this)
    refine ⟨p, kas, r, w, a, sq_of b, fun k hk' => ⟨hs k hk', h1 k.2 (by rw [← hk]; exact List.mem_map_of_mem hk')⟩, nd, by rw [← hk, List.length_map] at hl; exact hl, fun zs n hz az hn => ?_⟩
    have hzy : zs.map (fun k => k.2.2.2) = ys.map fun k => k.2.2 := by
      refine Asc.uniq az ha ?_
      refine (hz.map _).trans ?_
      have e1 : (kas.map fun k => k.2.2.2) = ks.map fun k => k.2.2 := by rw [← hk, List.map_map]; rfl
      rw [e1]
      exact (hp.map _).symm
    have hz2 : zs.map (·.2) = ys := by
      have hzr : ∀ k ∈ zs, k.2.1 = r ∧ k.2.2.1 = w := fun k hk' => h1 k.2 (by rw [← hk]; exact List.mem_map_of_mem (hz.mem_iff.mp hk'))
      have hyr : ∀ k ∈ ys, k.1 = r ∧ k.2.1 = w := fun k hk' => h1 k (hp.mem_iff.mp hk')
      clear hz az hp ha hn q
      induction zs generalizing ys with
      | nil =>
        cases ys with
        | nil => rfl
        | cons _ _ => simp at hzy
      | cons z zs ih =>
        cases ys with
        | nil => simp at hzy
        | cons y ys =>
          simp only [List.map_cons, List.cons.injEq] at hzy
          have a1 := hzr z List.mem_cons_self
          have a2 := hyr y List.mem_cons_self
          rw [List.map_cons, ih hzy.2 (fun k hk => hzr k (List.mem_cons_of_mem _ hk)) fun k hk => hyr k (List.mem_cons_of_mem _ hk)]
          rw [show z.2 = y from Prod.ext (a1.1.trans a2.1.symm) (Prod.ext (a1.2.trans a2.2.symm) hzy.1)]
    refine q _ _ (e1.trans (Ex.new hn)) ⟨n, _, rfl, upd_same, ?_⟩
    have hall : ∀ (Hn : Hp), Ex H1 Hn → ∀ zs : List KA, (∀ k ∈ zs, SqT K H1 k.1 (k3 k.2)) → All2 Hn ((zs.map (·.2)).map (keyD K)) (zs.map fun k => V.ref k.1) := by
      intro Hn eh zs
      induction zs with
      | nil => exact fun _ => True.intro
      | cons k zs ih => exact fun h => ⟨⟨_, _, rfl, ex_t eh (h k List.mem_cons_self), rfl, rfl, rfl, True.intro⟩, ih fun q hq => h q (List.mem_cons_of_mem _ hq)⟩
    rw [← hz2]
    exact hall _ (Ex.new hn) zs fun k hk' => hs k (hz.mem_iff.mp hk')
end
end Sl
namespace Sl
open PySem PySem.Spec PyProof.Rows L2 StX RZ
open Evl (Ex ex_l ex_t ex_rd sq_of st_of sz_of sz_lt fresh_back)
local macro_rules | `(tactic| walk_at "sd") => `(tactic| first | assumption | omega | decide | (constructor <;> assumption) | (constructor <;> omega))
section
variable {P : Program} {w : World} {K : PySem.W.Frag} {mg : Str → Option Value} {base : Heap}

section
variable {S : Sty} {z i j : Int} {ρ : Rho}
theorem there_pos (h : 0 < sz S z i) : thereB (S.row i) z = true := by
  refine there_iff.mpr ?_
  by_cases hc : 0 ≤ z - (S.row i).first ∧ z - (S.row i).first < ((S.row i).sizes.length : Int)
  · exact hc
  · exfalso
    unfold sz Row.at at h
    rw [if_neg hc] at h
    omega
theorem pos_there (hok : S.Ok) (hi : S.In i) (h : thereB (S.row i) z = true) : 0 < sz S z i := by
  obtain ⟨h1, h2⟩ := there_iff.mp h
  have hl : (z - (S.row i).first).toNat < (S.row i).sizes.length := by omega
  have := (hi.ok hok).sz _ (List.getElem_mem hl)
  unfold sz Row.at
  rw [if_pos ⟨h1, h2⟩, List.getD_eq_getElem?_getD, List.getElem?_eq_getElem hl]
  show 0 < (S.row i).sizes[(z - (S.row i).first).toNat]
  omega
theorem shownT_eq (hok : S.Ok) : shownT S z = shownR S z := by
  unfold shownT shownR
  refine List.filter_congr fun k hk => ?_
  have hi := in_nat (List.mem_range.mp hk)
  rw [Bool.eq_iff_iff, decide_eq_true_iff]
  exact ⟨pos_there hok hi, there_pos⟩
theorem shownT_zip : (S.rows.zipIdx.filter fun p => thereB p.1 z).map (fun p => dI (p.2 : Int)) = (shownT S z).map fun (k : Nat) => dI (k : Int) := by
  have e : S.rows.zipIdx = (List.range S.rows.length).map fun (k : Nat) => (S.row (k : Int), k) := by
    apply List.ext_getElem?
    intro n
    rw [List.getElem?_zipIdx, List.getElem?_map]
    by_cases hn : n < S.rows.length
    · rw [List.getElem?_eq_getElem hn, List.getElem?_range hn]
      show some (S.rows[n], 0 + n) = some (S.row (n : Int), n)
      have := (in_nat (S := S) hn).get
      rw [show ((n : Int)).toNat = n by omega, List.getElem?_eq_getElem hn] at this
      rw [Option.some.inj this, Nat.zero_add]
    · rw [List.getElem?_eq_none (by omega), List.getElem?_eq_none (by simp; omega)]
      rfl
  rw [e, List.filter_map, List.map_map]
  rfl
theorem wanted_at (S : Sty) (i j : Int) : atI (((S.far.filter fun p => decide (p.1 = rp i j)).map fun p => dI p.2) ++ [dI 0]) 0 = some (dI (S.dist i j)) := by
  refine atI_in (by decide) ?_
  unfold Sty.dist
  generalize rp i j = q
  show _ = some (dI ((S.far.lookup q).getD 0))
  generalize S.far = l
  induction l with
  | nil => rfl
  | cons p l ih =>
    rw [List.lookup_cons, List.filter_cons]
    by_cases h : p.1 = q
    · subst h
      rw [if_pos (by simp)]
      simp
    · rw [if_neg (by simpa using h), ih]
      have : (q == p.1) = false := beq_eq_false_iff_ne.mpr fun e => h e.symm
      rw [this]
theorem max_gap (a b : Lab) (d : Int) : dB (decide ((if iabs (a.y - b.y) > iabs (a.x - b.x) then iabs (a.y - b.y) else iabs (a.x - b.x)) < d)) = dB (decide (gapL a b < d)) := by
  rw [show decide ((if iabs (a.y - b.y) > iabs (a.x - b.x) then iabs (a.y - b.y) else iabs (a.x - b.x)) < d) = decide (gapL a b < d) from decide_eq_decide.mpr (by
    unfold gapL
    split <;> split <;> omega)]
def ownD (S : Sty) (z : Int) : Dt := match firstOwn S z with
  | some e => dI (e : Int)
  | none => dN
theorem own_head (hok : S.Ok) : ownD S z = match (shownT S z).filter (fun k : Nat => canClash S z k k) with
  | k :: _ => dI (k : Int)
  | [] => dN := by
  unfold ownD firstOwn
  rw [← shownT_eq hok]
  generalize shownT S z = l
  induction l with
  | nil => rfl
  | cons k l ih =>
    rw [List.find?_cons, List.filter_cons]
    cases canClash S z k k with
    | true => rfl
    | false => exact ih
theorem pd_ints {K : PySem.W.Frag} (ns : List Nat) : PD K (dLst K (ns.map fun (k : Nat) => dI (k : Int))) (.list (ns.map fun (k : Nat) => PyData.int (k : Int))) := pd_lstM ns fun k => pd_I
theorem ints_lay : ∀ ns : List Nat, PyData.canLayAll0 (ns.map fun (k : Nat) => PyData.int (k : Int)) = true ∧ PyData.depthAll (ns.map fun (k : Nat) => PyData.int (k : Int)) = 0
  | [] => ⟨rfl, rfl⟩
  | k :: ns => by
    obtain ⟨h1, h2⟩ := ints_lay ns
    constructor
    · simp [PyData.canLayAll0, PyData.canLay0, h1]
    · simp [PyData.depthAll, PyData.depth, h2]
theorem shaped_ints (ns : List Nat) : SeqAt.shaped (.list (ns.map fun (k : Nat) => PyData.int (k : Int))) = true := by
  obtain ⟨h1, h2⟩ := ints_lay ns
  simp [SeqAt.shaped, PyData.canLay0, PyData.depth, h1, h2]
def meetM (S : Sty) (z : Int) (l : Lab) (x y s : Int) : Bool := !(decide (l.x ≤ x - hw S z l.rank l.letters) || decide (x + s + hw S z l.rank l.letters ≤ l.x)) && (decide (y - hh S z l.rank < l.y) && decide (l.y < y + s + hh S z l.rank))
theorem meetM_eq (l : Lab) (x y s : Int) : meetM S z l x y s = meetL S z l x y s := by
  unfold meetM meetL
  rw [show decide (l.x ≤ x - hw S z l.rank l.letters) = decide (l.x + hw S z l.rank l.letters ≤ x) from decide_eq_decide.mpr (by omega), show decide (x + s + hw S z l.rank l.letters ≤ l.x) = decide (x + s ≤ l.x - hw S z l.rank l.letters) from decide_eq_decide.mpr (by omega),
    show decide (y - hh S z l.rank < l.y) = decide (y < l.y + hh S z l.rank) from decide_eq_decide.mpr (by omega), show decide (l.y < y + s + hh S z l.rank) = decide (l.y - hh S z l.rank < y + s) from decide_eq_decide.mpr (by omega)]
theorem sd_par3 {ta tb tc : TE} {a b c : Dt} {i j l : Nat} (h : EdA (tCons ta (tCons tb (tCons tc tNil))) ρ [a, b, c]) : Sd (tPar3 i j l (tCons ta (tCons tb (tCons tc tNil)))) ρ (.nx (((ρ.set i (some a)).set j (some b)).set l (some c))) := fun H σ D e k => h H σ e _ fun vs H1 e1 p => by
  obtain ⟨v, w, u, rfl, p1, p2, p3⟩ := all2_3 p
  exact ⟨v, w, u, rfl, k _ H1 e1 ((((e.mono e1).set p1 i).set p2 j).set p3 l)⟩
def NamesOf (ns : List Str) (ls : List Lab) : Prop := ns.Perm (ls.map Lab.name) ∧ Asc ns
end

/-! _law_rank -/
def R_law_rank (K : PySem.W.Frag) : List Dt → Dt → Prop := fun ds d => ∃ S : Sty, ∃ l : Lab, (S.Ok) ∧ (S.In l.rank) ∧ ds = [dLore K S, labD K S l] ∧ d = dI l.rank
abbrev N_law_rank : List Str := ["_law_lore_here", "_law_label", "_law_one"]
theorem sc_law_rank : FnScope N_law_rank ["_law_lore_here", "_law_label"] (defScope s_law_rank) := ⟨rfl, rfl, rfl, by decide +kernel, rfl, by decide +kernel, by decide +kernel⟩
theorem fn_law_rank (T : Tx w K mg) : Fn0 P w K mg base 1 "_law_rank" ["_law_lore_here", "_law_label"] (spP (R_law_rank K)) := by
  obtain ⟨fd, F⟩ := T.f_law_rank
  have nd := sc_law_rank.nd
  refine mk_fn T.g_law_rank F.kp (fn_pure F sc_law_rank (by rintro _ _ ⟨S, l, c0, c1, rfl, rfl⟩; rfl) (fun cdv A outer s H E hr => ?_)) (F.bindsN fun _ _ _ _ _ _ us hl => match us, hl with | [_, _], _ => rfl)
  have hu := hu_of hr
  have hu65 := hu65 hr
  refine ⟨_, (pss_one (ps_ret (pe_bm PySem.F.plainAttrs_list PySem.F.slot_list_index PySem.F.type_list_index mt_index (pe_lc (own := [("_law_one", 2)]) (by rfl) nd (pi_listK K (pe_dgetF hu (pv 0) pe_str (fun _ _ => rfl))) (blkOk_by (N := N_law_rank) (sc := defScope s_law_rank) (by decide +kernel)) (fun _ _ _ _ _ => (pg_name (i := 2) nd rfl (Or.inl rfl))) (fun _ _ _ _ _ => pts_nil) (fun _ _ _ _ _ => (pe_ix (ixK_tup K) (pv 2) pe_int (fun _ _ => rfl)))) (pa_cons (pe_ix (ixK_tup K) (pv 1) pe_int (fun _ _ => rfl)) pa_nil)))), ?_⟩
  rintro _ _ ⟨S, l, c0, c1, rfl, rfl⟩
  refine sd_ret (ed_is (ed_index (j := l.rank.toNat) (s := (S.row l.rank).name) (ss := S.rows.map Row.name) (ed_is (ed_lc0 (K := K) S.rows (clsD K) (fun r => dS r.name) (wd_list (ed_lc_ ed_var)) (by have := c0.n4; omega) (by decide) (fun _ _ => imm_V _) fun r hr => ⟨_, gd_name, (ed_ixT ed_var ed_c rfl)⟩) (by rw [List.map_map] <;> rfl)) (by rw [List.getElem?_map, c1.get]; rfl) c0.nd (ed_ixT ed_var ed_c rfl)) ?_)
  have := c1.1
  rw [show ((l.rank.toNat : Nat) : Int) = l.rank by omega]

/-! _law_ranks -/
def R_law_ranks (K : PySem.W.Frag) : List Dt → Dt → Prop := fun ds d => ∃ S : Sty, ∃ z : Int, (S.Ok) ∧ ds = [dLore K S, dI z] ∧ d = dLst K ((shownT S z).map fun (k : Nat) => dI (k : Int))
abbrev N_law_ranks : List Str := ["_law_lore_here", "_law_zoom", "_law_i", "_law_one"]
theorem sc_law_ranks : FnScope N_law_ranks ["_law_lore_here", "_law_zoom"] (defScope s_law_ranks) := ⟨rfl, rfl, rfl, by decide +kernel, rfl, by decide +kernel, by decide +kernel⟩
theorem fn_law_ranks (T : Tx w K mg) : Fn0 P w K mg base 2 "_law_ranks" ["_law_lore_here", "_law_zoom"] (spP (R_law_ranks K)) := by
  obtain ⟨fd, F⟩ := T.f_law_ranks
  have nd := sc_law_ranks.nd
  refine mk_fn T.g_law_ranks F.kp (fn_pure F sc_law_ranks (by rintro _ _ ⟨S, z, c0, rfl, rfl⟩; rfl) (fun cdv A outer s H E hr => ?_)) (F.bindsN fun _ _ _ _ _ _ us hl => match us, hl with | [_, _], _ => rfl)
  have hu := hu_of hr
  have hu65 := hu65 hr
  refine ⟨_, (pss_one (ps_ret (pe_lc (own := [("_law_i", 2), ("_law_one", 3)]) (by rfl) nd (pi_enumK K T.b_enumerate (pa_cons (pe_dgetF hu (pv 0) pe_str (fun _ _ => rfl)) pa_nil)) (blkOk_by (N := N_law_ranks) (sc := defScope s_law_ranks) (by decide +kernel)) (fun _ _ _ _ _ => (pg_tupK K (n := 2) (pgs_cons (pg_name (i := 2) nd rfl (Or.inl rfl)) (pgs_cons (pg_name (i := 3) nd rfl (Or.inl rfl)) pgs_nil)))) (fun _ _ _ _ _ => pts_one (pt_val (pe_callF (fn_law_is_there T) hr (pa_cons (pv 3) (pa_cons (pv 1) pa_nil))))) (fun _ _ _ _ _ => (pv 2))))), ?_⟩
  rintro _ _ ⟨S, z, c0, rfl, rfl⟩
  have hn := c0.n4
  refine sd_ret (ed_is (ed_lc (K := K) S.rows.zipIdx (fun p => dTup K [dI (p.2 : Int), clsD K p.1]) (fun p => thereB p.1 z) (fun p => dI (p.2 : Int)) (wd_is (wd_enumL (eda_cons (ed_lc_ ed_var) eda_nil)) (by unfold numbered; rw [List.zipIdx_map, List.map_map]; rfl)) (by simp; omega) (by decide) (fun _ _ _ => imm_V _) fun p hp => ⟨_, gd_tup (gds_cons gd_name (gds_cons gd_name gds_nil)), (td_B (ed_call (eda_cons ed_var (eda_cons ed_var eda_nil)) ⟨_, _, rfl, rfl⟩)), fun _ => ed_var⟩) ?_)
  rw [shownT_zip]

/-! _law_box -/
def R_law_box (K : PySem.W.Frag) : List Dt → Dt → Prop := fun ds d => ∃ S : Sty, ∃ z : Int, ∃ l : Lab, (S.Ok ∧ LabOk S z l) ∧ (0 ≤ z ∧ z ≤ S.last) ∧ ds = [dLore K S, labD K S l, dI z] ∧ d = dTup K [dI (hw S z l.rank l.letters), dI (hh S z l.rank)]
abbrev N_law_box : List Str := ["_law_lore_here", "_law_label", "_law_zoom", "_law_i"]
theorem sc_law_box : FnScope N_law_box ["_law_lore_here", "_law_label", "_law_zoom"] (defScope s_law_box) := ⟨rfl, rfl, rfl, by decide +kernel, rfl, by decide +kernel, by decide +kernel⟩
theorem fn_law_box (T : Tx w K mg) : Fn0 P w K mg base 3 "_law_box" ["_law_lore_here", "_law_label", "_law_zoom"] (spP (R_law_box K)) := by
  obtain ⟨fd, F⟩ := T.f_law_box
  have nd := sc_law_box.nd
  refine mk_fn T.g_law_box F.kp (fn_pure F sc_law_box (by rintro _ _ ⟨S, z, l, c0, c1, rfl, rfl⟩; rfl) (fun cdv A outer s H E hr => ?_)) (F.bindsN fun _ _ _ _ _ _ us hl => match us, hl with | [_, _, _], _ => rfl)
  have hu := hu_of hr
  have hu65 := hu65 hr
  refine ⟨_, (pss_cons (ps_set (i := 3) nd rfl (Or.inl rfl) (pe_callF (fn_law_rank T) (hr.mono (by decide)) (pa_cons (pv 0) (pa_cons (pv 1) pa_nil)))) (pss_cons (ps_if (pt_not (pt_val (pe_callF (fn_law_is_there T) (hr.mono (by decide)) (pa_cons (pe_ix (ixK_list K) (pe_dgetF hu (pv 0) pe_str (fun _ _ => rfl)) (pv 3) (fun _ _ => rfl)) (pa_cons (pv 2) pa_nil))))) (pss_one (ps_ret pe_non)) pss_nil) (pss_one (ps_ret (pe_tup (pa_cons (pe_callF (fn_law_half T) hr (pa_cons (pv 0) (pa_cons (pv 3) (pa_cons (pe_ix (ixK_tup K) (pv 1) pe_int (fun _ _ => rfl)) (pa_cons (pv 2) pa_nil))))) (pa_cons (pe_callF (fn_law_half T) hr (pa_cons (pv 0) (pa_cons (pv 3) (pa_cons pe_int (pa_cons (pv 2) pa_nil))))) pa_nil))))))), ?_⟩
  rintro _ _ ⟨S, z, l, c0, c1, rfl, rfl⟩
  obtain ⟨h, l1, l2, l3, l4⟩ := c0
  have ht := there_pos l2
  refine sd_seq (sd_set (ed_call (eda_cons ed_var (eda_cons ed_var eda_nil)) ⟨_, _, h, l1, rfl, rfl⟩)) ?_
  refine sd_ifR (td_not (td_B (ed_call (eda_cons (ed_ixL (ed_lc_ ed_var) ed_var (at_cls l1)) (eda_cons ed_var eda_nil)) ⟨_, _, rfl, rfl⟩))) (fun hb => absurd hb (by rw [ht]; decide)) (fun _ => sd_ret ?_)
  refine ed_is (ed_tup (K := K) (eda_cons (ed_call (eda_cons ed_var (eda_cons ed_var (eda_cons (ed_ixT ed_var ed_c rfl) (eda_cons ed_var eda_nil)))) ⟨_, _, _, _, h, c1, l1, ht, ⟨l3, l4⟩, rfl, rfl⟩) (eda_cons (ed_call (eda_cons ed_var (eda_cons ed_var (eda_cons ed_c (eda_cons ed_var eda_nil)))) ⟨_, _, _, _, h, c1, l1, ht, ⟨by decide, by decide⟩, rfl, rfl⟩) eda_nil)) (by simp)) ?_
  rw [show hw S z l.rank 1 = hh S z l.rank by unfold hw; rw [Int.one_mul]]

/-! _law_overlap -/
def R_law_overlap (K : PySem.W.Frag) : List Dt → Dt → Prop := fun ds d => ∃ S : Sty, ∃ z : Int, ∃ a : Lab, ∃ b : Lab, (S.Ok ∧ LabOk S z a) ∧ (LabOk S z b) ∧ (0 ≤ z ∧ z ≤ S.last) ∧ ds = [dLore K S, labD K S a, labD K S b, dI z] ∧ d = dB (overL S z a b)
abbrev N_law_overlap : List Str := ["_law_lore_here", "_law_one", "_law_other", "_law_zoom", "_law_box_here", "_law_its", "_law_gap"]
theorem sc_law_overlap : FnScope N_law_overlap ["_law_lore_here", "_law_one", "_law_other", "_law_zoom"] (defScope s_law_overlap) := ⟨rfl, rfl, rfl, by decide +kernel, rfl, by decide +kernel, by decide +kernel⟩
theorem fn_law_overlap (T : Tx w K mg) : Fn0 P w K mg base 4 "_law_overlap" ["_law_lore_here", "_law_one", "_law_other", "_law_zoom"] (spP (R_law_overlap K)) := by
  obtain ⟨fd, F⟩ := T.f_law_overlap
  have nd := sc_law_overlap.nd
  refine mk_fn T.g_law_overlap F.kp (fn_pure F sc_law_overlap (by rintro _ _ ⟨S, z, a, b, c0, c1, c2, rfl, rfl⟩; rfl) (fun cdv A outer s H E hr => ?_)) (F.bindsN fun _ _ _ _ _ _ us hl => match us, hl with | [_, _, _, _], _ => rfl)
  have hu := hu_of hr
  have hu65 := hu65 hr
  refine ⟨_, (pss_cons (ps_par3 (i := 4) (j := 5) (l := 6) (by rfl) nd rfl rfl rfl (by decide) (by decide) (by decide) rfl rfl rfl (pa_cons (pe_callF (fn_law_box T) hr (pa_cons (pv 0) (pa_cons (pv 1) (pa_cons (pv 3) pa_nil)))) (pa_cons (pe_callF (fn_law_box T) hr (pa_cons (pv 0) (pa_cons (pv 2) (pa_cons (pv 3) pa_nil)))) (pa_cons (pe_callF (fn_law_apart T) (hr.mono (by decide)) (pa_cons (pv 1) (pa_cons (pv 2) pa_nil))) pa_nil))) (by rfl)) (pss_one (ps_ret (pe_and (pe_cmp (pc_notN (pv 4))) (pe_and (pe_cmp (pc_notN (pv 5))) (pe_and (pe_cmpR op_lt (pe_ix (ixK_tup K) (pv 6) pe_int (fun _ _ => rfl)) (pe_op op_add (pe_ix (ixK_tup K) (pv 4) pe_int (fun _ _ => rfl)) (pe_ix (ixK_tup K) (pv 5) pe_int (fun _ _ => rfl))) (nomark _)) (pe_one (pe_cmpR op_lt (pe_ix (ixK_tup K) (pv 6) pe_int (fun _ _ => rfl)) (pe_op op_add (pe_ix (ixK_tup K) (pv 4) pe_int (fun _ _ => rfl)) (pe_ix (ixK_tup K) (pv 5) pe_int (fun _ _ => rfl))) (nomark _))))))))), ?_⟩
  rintro _ _ ⟨S, z, a, b, c0, c1, c2, rfl, rfl⟩
  refine sd_seq (sd_par3 (eda_cons (ed_call (eda_cons ed_var (eda_cons ed_var (eda_cons ed_var eda_nil))) ⟨_, _, _, c0, c2, rfl, rfl⟩) (eda_cons (ed_call (eda_cons ed_var (eda_cons ed_var (eda_cons ed_var eda_nil))) ⟨_, _, _, ⟨c0.1, c1⟩, c2, rfl, rfl⟩) (eda_cons (ed_call (eda_cons ed_var (eda_cons ed_var eda_nil)) ⟨S, _, _, rfl, rfl⟩) eda_nil)))) (sd_ret ?_)
  exact ed_andV (a := true) (ed_notSome ed_var notN_tup) fun _ => (ed_andV (a := true) (ed_notSome ed_var notN_tup) fun _ => (ed_andV (ed_lt (ed_ixT ed_var ed_c rfl) (ed_add (ed_ixT ed_var ed_c rfl) (ed_ixT ed_var ed_c rfl))) fun _ => (ed_lt (ed_ixT ed_var ed_c rfl) (ed_add (ed_ixT ed_var ed_c rfl) (ed_ixT ed_var ed_c rfl)))))

/-! _law_clash -/
def R_law_clash (K : PySem.W.Frag) : List Dt → Dt → Prop := fun ds d => ∃ S : Sty, ∃ z : Int, ∃ a : Lab, ∃ b : Lab, (S.Ok ∧ LabOk S z a) ∧ (LabOk S z b) ∧ (0 ≤ z ∧ z ≤ S.last) ∧ ds = [dLore K S, labD K S a, labD K S b, dI z] ∧ d = dB (clashL S z a b)
abbrev N_law_clash : List Str := ["_law_lore_here", "_law_one", "_law_other", "_law_zoom", "_law_pair_here"]
theorem sc_law_clash : FnScope N_law_clash ["_law_lore_here", "_law_one", "_law_other", "_law_zoom"] (defScope s_law_clash) := ⟨rfl, rfl, rfl, by decide +kernel, rfl, by decide +kernel, by decide +kernel⟩
theorem fn_law_clash (T : Tx w K mg) : Fn0 P w K mg base 5 "_law_clash" ["_law_lore_here", "_law_one", "_law_other", "_law_zoom"] (spP (R_law_clash K)) := by
  obtain ⟨fd, F⟩ := T.f_law_clash
  have nd := sc_law_clash.nd
  refine mk_fn T.g_law_clash F.kp (fn_pure F sc_law_clash (by rintro _ _ ⟨S, z, a, b, c0, c1, c2, rfl, rfl⟩; rfl) (fun cdv A outer s H E hr => ?_)) (F.bindsN fun _ _ _ _ _ _ us hl => match us, hl with | [_, _, _, _], _ => rfl)
  have hu := hu_of hr
  have hu65 := hu65 hr
  refine ⟨_, (pss_cons (ps_set (i := 4) nd rfl (Or.inl rfl) (pe_callF (fn_law_pair T) (hr.mono (by decide)) (pa_cons (pe_callF (fn_law_rank T) (hr.mono (by decide)) (pa_cons (pv 0) (pa_cons (pv 1) pa_nil))) (pa_cons (pe_callF (fn_law_rank T) (hr.mono (by decide)) (pa_cons (pv 0) (pa_cons (pv 2) pa_nil))) pa_nil)))) (pss_one (ps_ret (pe_and (pe_cmpR (opK_notInLD K hu65) (pv 4) (pe_dgetF hu (pv 0) pe_str (fun _ _ => rfl)) (by rfl)) (pe_one (pe_callF (fn_law_overlap T) hr (pa_cons (pv 0) (pa_cons (pv 1) (pa_cons (pv 2) (pa_cons (pv 3) pa_nil)))))))))), ?_⟩
  rintro _ _ ⟨S, z, a, b, c0, c1, c2, rfl, rfl⟩
  refine sd_seq (sd_set (ed_call (eda_cons (ed_call (eda_cons ed_var (eda_cons ed_var eda_nil)) ⟨_, _, c0.1, c0.2.1, rfl, rfl⟩) (eda_cons (ed_call (eda_cons ed_var (eda_cons ed_var eda_nil)) ⟨_, _, c0.1, c1.1, rfl, rfl⟩) eda_nil)) ⟨_, _, rfl, rfl⟩)) (sd_ret ?_)
  exact ed_andV (ed_notinPL ed_var (ed_lb ed_var)) fun _ => (ed_call (eda_cons ed_var (eda_cons ed_var (eda_cons ed_var (eda_cons ed_var eda_nil)))) ⟨_, _, _, _, c0, c1, c2, rfl, rfl⟩)

/-! _law_is_near -/
def R_law_is_near (K : PySem.W.Frag) : List Dt → Dt → Prop := fun ds d => ∃ S : Sty, ∃ a : Lab, ∃ b : Lab, (S.Ok) ∧ (S.In a.rank) ∧ (S.In b.rank) ∧ ds = [dLore K S, labD K S a, labD K S b] ∧ d = dB (decide (gapL a b < S.dist a.rank b.rank))
abbrev N_law_is_near : List Str := ["_law_lore_here", "_law_one", "_law_other", "_law_pair_here", "_law_gap", "_law_wanted", "_law_some", "_law_distance_here"]
theorem sc_law_is_near : FnScope N_law_is_near ["_law_lore_here", "_law_one", "_law_other"] (defScope s_law_is_near) := ⟨rfl, rfl, rfl, by decide +kernel, rfl, by decide +kernel, by decide +kernel⟩
theorem fn_law_is_near (T : Tx w K mg) : Fn0 P w K mg base 3 "_law_is_near" ["_law_lore_here", "_law_one", "_law_other"] (spP (R_law_is_near K)) := by
  obtain ⟨fd, F⟩ := T.f_law_is_near
  have nd := sc_law_is_near.nd
  refine mk_fn T.g_law_is_near F.kp (fn_pure F sc_law_is_near (by rintro _ _ ⟨S, a, b, c0, c1, c2, rfl, rfl⟩; rfl) (fun cdv A outer s H E hr => ?_)) (F.bindsN fun _ _ _ _ _ _ us hl => match us, hl with | [_, _, _], _ => rfl)
  have hu := hu_of hr
  have hu65 := hu65 hr
  refine ⟨_, (pss_cons (ps_asg (pe_tup (pa_cons (pe_callF (fn_law_pair T) (hr.mono (by decide)) (pa_cons (pe_callF (fn_law_rank T) (hr.mono (by decide)) (pa_cons (pv 0) (pa_cons (pv 1) pa_nil))) (pa_cons (pe_callF (fn_law_rank T) (hr.mono (by decide)) (pa_cons (pv 0) (pa_cons (pv 2) pa_nil))) pa_nil))) (pa_cons (pe_callF (fn_law_apart T) (hr.mono (by decide)) (pa_cons (pv 1) (pa_cons (pv 2) pa_nil))) pa_nil))) (pg_tupK K (n := 2) (pgs_cons (pg_name (i := 3) nd rfl (Or.inr rfl)) (pgs_cons (pg_name (i := 4) nd rfl (Or.inl rfl)) pgs_nil)))) (pss_cons (ps_set (i := 5) nd rfl (Or.inl rfl) (pe_op op_cat (pe_lc (own := [("_law_some", 6), ("_law_distance_here", 7)]) (by rfl) nd (pi_listK K (pe_dgetF hu (pv 0) pe_str (fun _ _ => rfl))) (blkOk_by (N := N_law_is_near) (sc := defScope s_law_is_near) (by decide +kernel)) (fun _ _ _ _ _ => (pg_tupK K (n := 2) (pgs_cons (pg_name (i := 6) nd rfl (Or.inl rfl)) (pgs_cons (pg_name (i := 7) nd rfl (Or.inl rfl)) pgs_nil)))) (fun _ _ _ _ _ => pts_one (pt_cmpR (opK_eqD K hu65) (pv 6) (pv 3) (nomark _))) (fun _ _ _ _ _ => (pv 7))) (pe_lst (pa_cons pe_int pa_nil)))) (pss_one (ps_ret (pe_cmpR op_lt (pe_bi (call_max2 (by rfl)) T.b_max (by decide +kernel) (pa_cons (pe_bt call_int1 T.b_int (by decide +kernel) (pa_cons (pe_ix (ixK_tup K) (pv 4) pe_int (fun _ _ => rfl)) pa_nil)) (pa_cons (pe_bt call_int1 T.b_int (by decide +kernel) (pa_cons (pe_ix (ixK_tup K) (pv 4) pe_int (fun _ _ => rfl)) pa_nil)) pa_nil))) (pe_ix (ixK_list K) (pv 5) pe_int (fun _ _ => rfl)) (nomark _)))))), ?_⟩
  rintro _ _ ⟨S, a, b, c0, c1, c2, rfl, rfl⟩
  refine sd_seq (sd_asg (ed_tup (eda_cons (ed_call (eda_cons (ed_call (eda_cons ed_var (eda_cons ed_var eda_nil)) ⟨_, _, c0, c1, rfl, rfl⟩) (eda_cons (ed_call (eda_cons ed_var (eda_cons ed_var eda_nil)) ⟨_, _, c0, c2, rfl, rfl⟩) eda_nil)) ⟨_, _, rfl, rfl⟩) (eda_cons (ed_call (eda_cons ed_var (eda_cons ed_var eda_nil)) ⟨S, _, _, rfl, rfl⟩) eda_nil)) (by simp)) (gd_tup (gds_cons gd_name (gds_cons gd_name gds_nil)))) ?_
  have hfl := c0.fl
  have hff := List.length_filter_le (fun p : (Int × Int) × Int => decide (p.1 = rp a.rank b.rank)) S.far
  refine sd_seq (sd_set (ed_catL (ed_lc (K := K) S.far (farD K) (fun p => decide (p.1 = rp a.rank b.rank)) (fun p => dI p.2) (wd_list (ed_lf ed_var)) (by omega) (by decide) (fun _ _ _ => imm_V _) fun p hp => ⟨_, gd_tup (gds_cons gd_name (gds_cons gd_name gds_nil)), (td_test (ed_eqP (ed_w (K := K) ed_var) (ed_w ed_var))), fun _ => ed_var⟩) (ed_lst (eda_cons ed_c eda_nil) (by simp)) (by simp; omega))) (sd_ret ?_)
  refine ed_is (ed_lt (ed_cb (eda_cons (ed_cb (eda_cons (ed_ixT ed_var ed_c rfl) eda_nil) cd_int) (eda_cons (ed_cb (eda_cons (ed_ixT ed_var ed_c rfl) eda_nil) cd_int) eda_nil)) cd_max2) (ed_ixL (K := K) ed_var ed_c (wanted_at S a.rank b.rank))) ?_
  rw [max_gap]

/-! _law_far -/
def R_law_far (K : PySem.W.Frag) : List Dt → Dt → Prop := fun ds d => ∃ S : Sty, ∃ i : Int, ∃ j : Int, (S.Ok) ∧ ds = [dLore K S, dI i, dI j] ∧ d = dI (S.dist i j)
abbrev N_law_far : List Str := ["_law_lore_here", "_law_i", "_law_j"]
theorem sc_law_far : FnScope N_law_far ["_law_lore_here", "_law_i", "_law_j"] (defScope s_law_far) := ⟨rfl, rfl, rfl, by decide +kernel, rfl, by decide +kernel, by decide +kernel⟩
theorem fn_law_far (T : Tx w K mg) : Fn0 P w K mg base 2 "_law_far" ["_law_lore_here", "_law_i", "_law_j"] (spP (R_law_far K)) := by
  obtain ⟨fd, F⟩ := T.f_law_far
  have nd := sc_law_far.nd
  refine mk_fn T.g_law_far F.kp (fn_pure F sc_law_far (by rintro _ _ ⟨S, i, j, c0, rfl, rfl⟩; rfl) (fun cdv A outer s H E hr => ?_)) (F.bindsN fun _ _ _ _ _ _ us hl => match us, hl with | [_, _, _], _ => rfl)
  have hu := hu_of hr
  have hu65 := hu65 hr
  refine ⟨_, (pss_one (ps_ret (pe_dget2F hu (pe_bt (crK_dictT K hu65) T.b_dict (by decide +kernel) (pa_cons (pe_dgetF hu (pv 0) pe_str (fun _ _ => rfl)) pa_nil)) (pe_callF (fn_law_pair T) hr (pa_cons (pv 1) (pa_cons (pv 2) pa_nil))) pe_int ⟨rfl, rfl, rfl, rfl⟩))), ?_⟩
  rintro _ _ ⟨S, i, j, c0, rfl, rfl⟩
  exact sd_ret (ed_dgetF (ed_cb (eda_cons (ed_lf ed_var) eda_nil) (cd_dictT c0.fk c0.fl)) (ed_call (eda_cons ed_var (eda_cons ed_var eda_nil)) ⟨_, _, rfl, rfl⟩) ed_c)

/-! _law_can_bar -/
def R_law_can_bar (K : PySem.W.Frag) : List Dt → Dt → Prop := fun ds d => ∃ S : Sty, ∃ z : Int, ∃ i : Int, (S.Ok) ∧ (0 ≤ z ∧ z ≤ S.last) ∧ (S.In i) ∧ (thereB (S.row i) z = true) ∧ ds = [dLore K S, dI i, dI i, dI z] ∧ d = dB (canClash S z i i)
abbrev N_law_can_bar : List Str := ["_law_lore_here", "_law_i", "_law_j", "_law_zoom", "_law_wide"]
theorem sc_law_can_bar : FnScope N_law_can_bar ["_law_lore_here", "_law_i", "_law_j", "_law_zoom"] (defScope s_law_can_bar) := ⟨rfl, rfl, rfl, by decide +kernel, rfl, by decide +kernel, by decide +kernel⟩
theorem fn_law_can_bar (T : Tx w K mg) : Fn0 P w K mg base 5 "_law_can_bar" ["_law_lore_here", "_law_i", "_law_j", "_law_zoom"] (spP (R_law_can_bar K)) := by
  obtain ⟨fd, F⟩ := T.f_law_can_bar
  have nd := sc_law_can_bar.nd
  refine mk_fn T.g_law_can_bar F.kp (fn_pure F sc_law_can_bar (by rintro _ _ ⟨S, z, i, c0, c1, c2, c3, rfl, rfl⟩; rfl) (fun cdv A outer s H E hr => ?_)) (F.bindsN fun _ _ _ _ _ _ us hl => match us, hl with | [_, _, _, _], _ => rfl)
  have hu := hu_of hr
  have hu65 := hu65 hr
  refine ⟨_, (pss_cons (ps_set (i := 4) nd rfl (Or.inl rfl) (pe_op op_add (pe_callF (fn_law_widest T) (hr.mono (by decide)) (pa_cons (pv 0) (pa_cons (pv 1) (pa_cons (pv 3) pa_nil)))) (pe_callF (fn_law_widest T) (hr.mono (by decide)) (pa_cons (pv 0) (pa_cons (pv 2) (pa_cons (pv 3) pa_nil)))))) (pss_one (ps_ret (pe_and (pe_cmpR (opK_notInLD K hu65) (pe_callF (fn_law_pair T) (hr.mono (by decide)) (pa_cons (pv 1) (pa_cons (pv 2) pa_nil))) (pe_dgetF hu (pv 0) pe_str (fun _ _ => rfl)) (by rfl)) (pe_one (pe_cmpR op_gt (pv 4) (pe_callF (fn_law_far T) (hr.mono (by decide)) (pa_cons (pv 0) (pa_cons (pv 1) (pa_cons (pv 2) pa_nil)))) (nomark _))))))), ?_⟩
  rintro _ _ ⟨S, z, i, c0, c1, c2, c3, rfl, rfl⟩
  refine sd_seq (sd_set (ed_add (ed_call (eda_cons ed_var (eda_cons ed_var (eda_cons ed_var eda_nil))) ⟨_, _, _, c0, c1, c2, c3, rfl, rfl⟩) (ed_call (eda_cons ed_var (eda_cons ed_var (eda_cons ed_var eda_nil))) ⟨_, _, _, c0, c1, c2, c3, rfl, rfl⟩))) (sd_ret ?_)
  refine ed_is (ed_andV (ed_notinPL (ed_call (eda_cons ed_var (eda_cons ed_var eda_nil)) ⟨_, _, rfl, rfl⟩) (ed_lb ed_var)) fun _ => (ed_gt ed_var (ed_call (eda_cons ed_var (eda_cons ed_var (eda_cons ed_var eda_nil))) ⟨_, _, _, c0, rfl, rfl⟩))) ?_
  unfold canClash canOver Sty.compete br
  rw [show decide (S.dist i i < gr S z i + gr S z i) = decide (S.dist i i ≤ gr S z i + gr S z i - 1) from decide_eq_decide.mpr (by omega)]

/-! _law_own -/
def R_law_own (K : PySem.W.Frag) : List Dt → Dt → Prop := fun ds d => ∃ S : Sty, ∃ z : Int, (S.Ok) ∧ (0 ≤ z ∧ z ≤ S.last) ∧ ds = [dLore K S, dI z] ∧ d = ownD S z
abbrev N_law_own : List Str := ["_law_lore_here", "_law_zoom", "_law_some", "_law_i"]
theorem sc_law_own : FnScope N_law_own ["_law_lore_here", "_law_zoom"] (defScope s_law_own) := ⟨rfl, rfl, rfl, by decide +kernel, rfl, by decide +kernel, by decide +kernel⟩
theorem fn_law_own (T : Tx w K mg) : Fn0 P w K mg base 6 "_law_own" ["_law_lore_here", "_law_zoom"] (spP (R_law_own K)) := by
  obtain ⟨fd, F⟩ := T.f_law_own
  have nd := sc_law_own.nd
  refine mk_fn T.g_law_own F.kp (fn_pure F sc_law_own (by rintro _ _ ⟨S, z, c0, c1, rfl, rfl⟩; rfl) (fun cdv A outer s H E hr => ?_)) (F.bindsN fun _ _ _ _ _ _ us hl => match us, hl with | [_, _], _ => rfl)
  have hu := hu_of hr
  have hu65 := hu65 hr
  refine ⟨_, (pss_cons (ps_setLc (i := 2) (own := [("_law_i", 3)]) rfl nd rfl rfl (sw_true rfl rfl rfl (by decide +kernel)) (pi_listK K (pe_callF (fn_law_ranks T) (hr.mono (by decide)) (pa_cons (pv 0) (pa_cons (pv 1) pa_nil)))) (blkOk_by (N := N_law_own) (sc := defScope s_law_own) (by decide +kernel)) (fun _ _ _ _ _ => (pg_name (i := 3) nd rfl (Or.inl rfl))) (fun _ _ _ _ _ => pts_one (pt_val (pe_callF (fn_law_can_bar T) hr (pa_cons (pv 0) (pa_cons (pv 3) (pa_cons (pv 3) (pa_cons (pv 1) pa_nil))))))) (fun _ _ _ _ _ => (pv 3))) (pss_one (ps_ret (pe_ifExp (pt_cmpR (opK_neD K hu65) (pv 2) (pe_lst pa_nil) (nomark _)) (pe_ix (ixK_list K) (pv 2) pe_int (fun _ _ => rfl)) pe_non)))), ?_⟩
  rintro _ _ ⟨S, z, c0, c1, rfl, rfl⟩
  have hin : ∀ k ∈ shownT S z, S.In (k : Int) ∧ thereB (S.row (k : Int)) z = true := fun k hk => by
    obtain ⟨h1, h2⟩ := List.mem_filter.mp hk
    exact ⟨in_nat (List.mem_range.mp h1), h2⟩
  have hn : (shownT S z).length ≤ 4 := Nat.le_trans (List.length_filter_le _ _) (by rw [List.length_range]; exact c0.n4)
  refine sd_seq (sd_set (ed_lc (K := K) (shownT S z) (fun (k : Nat) => dI (k : Int)) (fun k => canClash S z k k) (fun (k : Nat) => dI (k : Int)) (wd_list (ed_call (eda_cons ed_var (eda_cons ed_var eda_nil)) ⟨_, _, c0, rfl, rfl⟩)) (by omega) (by decide) (fun _ _ _ => imm_V _) fun k hk => ⟨_, gd_name, (td_B (ed_call (eda_cons ed_var (eda_cons ed_var (eda_cons ed_var (eda_cons ed_var eda_nil)))) ⟨_, _, _, c0, c1, (hin k hk).1, (hin k hk).2, rfl, rfl⟩)), fun _ => ed_var⟩)) (sd_ret ?_)
  rw [own_head c0]
  generalize List.filter (fun k : Nat => canClash S z k k) (shownT S z) = ns
  refine ed_if (td_test (ed_neD ed_var (ed_lst (K := K) eda_nil (by simp)) (pd_ints ns) (pd_lst (ds := []) (es := []) rfl (fun i d e h => by simp at h)) (shaped_ints ns) (by decide))) (fun hb => ?_) (fun hb => ?_)
  · cases ns with
    | nil => exact absurd hb (by decide)
    | cons k ns => exact ed_ixL (K := K) ed_var ed_c (atI_in (by decide) rfl)
  · cases ns with
    | nil => exact ed_c
    | cons k ns => exact absurd (show true = false from hb) (by decide)

/-! _law_meets -/
def R_law_meets (K : PySem.W.Frag) : List Dt → Dt → Prop := fun ds d => ∃ S : Sty, ∃ z : Int, ∃ l : Lab, ∃ x : Int, ∃ y : Int, ∃ s : Int, (S.Ok ∧ LabOk S z l) ∧ (0 ≤ z ∧ z ≤ S.last) ∧ ds = [dLore K S, labD K S l, tileD K x y s, dI z] ∧ d = dB (meetM S z l x y s)
abbrev N_law_meets : List Str := ["_law_lore_here", "_law_label", "_law_tile", "_law_zoom", "_law_box_here", "_law_x", "_law_y", "_law_side"]
theorem sc_law_meets : FnScope N_law_meets ["_law_lore_here", "_law_label", "_law_tile", "_law_zoom"] (defScope s_law_meets) := ⟨rfl, rfl, rfl, by decide +kernel, rfl, by decide +kernel, by decide +kernel⟩
theorem fn_law_meets (T : Tx w K mg) : Fn0 P w K mg base 4 "_law_meets" ["_law_lore_here", "_law_label", "_law_tile", "_law_zoom"] (spP (R_law_meets K)) := by
  obtain ⟨fd, F⟩ := T.f_law_meets
  have nd := sc_law_meets.nd
  refine mk_fn T.g_law_meets F.kp (fn_pure F sc_law_meets (by rintro _ _ ⟨S, z, l, x, y, s, c0, c1, rfl, rfl⟩; rfl) (fun cdv A outer s H E hr => ?_)) (F.bindsN fun _ _ _ _ _ _ us hl => match us, hl with | [_, _, _, _], _ => rfl)
  have hu := hu_of hr
  have hu65 := hu65 hr
  refine ⟨_, (pss_cons (ps_asg (pe_tup (pa_cons (pe_callF (fn_law_box T) hr (pa_cons (pv 0) (pa_cons (pv 1) (pa_cons (pv 3) pa_nil)))) (pa_cons (pv 2) pa_nil))) (pg_tupK K (n := 2) (pgs_cons (pg_name (i := 4) nd rfl (Or.inl rfl)) (pgs_cons (pg_tupK K (n := 3) (pgs_cons (pg_name (i := 5) nd rfl (Or.inl rfl)) (pgs_cons (pg_name (i := 6) nd rfl (Or.inl rfl)) (pgs_cons (pg_name (i := 7) nd rfl (Or.inl rfl)) pgs_nil)))) pgs_nil)))) (pss_cons (ps_if (PW.pt (pw_or (pt_cmp (pc_isN (pv 4))) (pw_or (pt_cmpR op_le (pe_ix (ixK_tup K) (pv 1) pe_int (fun _ _ => rfl)) (pe_op op_sub (pv 5) (pe_ix (ixK_tup K) (pv 4) pe_int (fun _ _ => rfl))) (nomark _)) (pw_or1 (pt_cmpR op_ge (pe_ix (ixK_tup K) (pv 1) pe_int (fun _ _ => rfl)) (pe_op op_add (pe_op op_add (pv 5) (pv 7)) (pe_ix (ixK_tup K) (pv 4) pe_int (fun _ _ => rfl))) (nomark _)))))) (pss_one (ps_ret pe_bl)) pss_nil) (pss_one (ps_ret (pe_chain op_lt op_lt (pe_op op_sub (pv 6) (pe_ix (ixK_tup K) (pv 4) pe_int (fun _ _ => rfl))) (pe_ix (ixK_tup K) (pv 1) pe_int (fun _ _ => rfl)) (pe_op op_add (pe_op op_add (pv 6) (pv 7)) (pe_ix (ixK_tup K) (pv 4) pe_int (fun _ _ => rfl))) rfl))))), ?_⟩
  rintro _ _ ⟨S, z, l, x, y, s, c0, c1, rfl, rfl⟩
  refine sd_seq (sd_asg (ed_tup (eda_cons (ed_call (eda_cons ed_var (eda_cons ed_var (eda_cons ed_var eda_nil))) ⟨_, _, _, c0, c1, rfl, rfl⟩) (eda_cons ed_var eda_nil)) (by simp)) (gd_tup (gds_cons gd_name (gds_cons (gd_tup (gds_cons gd_name (gds_cons gd_name (gds_cons gd_name gds_nil)))) gds_nil)))) ?_
  refine sd_ifR (td_or (td_B (ed_isSome ed_var notN_tup)) fun _ => (td_or (td_test (ed_le (ed_ixT ed_var ed_c rfl) (ed_sub ed_var (ed_ixT ed_var ed_c rfl)))) fun _ => (td_test (ed_ge (ed_ixT ed_var ed_c rfl) (ed_add (ed_add ed_var ed_var) (ed_ixT ed_var ed_c rfl)))))) (fun hb => ?_) (fun hb => ?_)
  · refine sd_ret (ed_is ed_c ?_)
    rw [Bool.false_or] at hb
    unfold meetM
    rw [hb]
    rfl
  · refine sd_ret (ed_is (ed_chain (ed_sub ed_var (ed_ixT ed_var ed_c rfl)) (ed_ixT ed_var ed_c rfl) (ed_add (ed_add ed_var ed_var) (ed_ixT ed_var ed_c rfl))) ?_)
    rw [Bool.false_or] at hb
    unfold meetM
    rw [hb]
    rfl

/-! _law_looked -/
def R_law_looked (K : PySem.W.Frag) : List Dt → Dt → Prop := fun ds d => ∃ S : Sty, ∃ z : Int, ∃ ls : List Lab, ∃ ns : List Str, (S.Ok ∧ ∀ l ∈ ls, LabOk S z l) ∧ (0 ≤ z ∧ z ≤ S.last) ∧ (ls.length ≤ 30) ∧ (NamesOf ns (lookF S z [] ls)) ∧ ds = [dLore K S, dLst K (ls.map (labD K S)), dI z] ∧ d = dTup K (ns.map fun s => dS s)
abbrev N_law_looked : List Str := ["_law_lore_here", "_law_rows_here", "_law_zoom", "_law_found", "_law_label", "_law_one"]
theorem sc_law_looked : FnScope N_law_looked ["_law_lore_here", "_law_rows_here", "_law_zoom"] (defScope s_law_looked) := ⟨rfl, rfl, rfl, by decide +kernel, rfl, by decide +kernel, by decide +kernel⟩
theorem fn_law_looked (T : Tx w K mg) : Fn0 P w K mg base 6 "_law_looked" ["_law_lore_here", "_law_rows_here", "_law_zoom"] (spP (R_law_looked K)) := by
  obtain ⟨fd, F⟩ := T.f_law_looked
  have nd := sc_law_looked.nd
  refine mk_fn T.g_law_looked F.kp (fn_pure F sc_law_looked (by rintro _ _ ⟨S, z, ls, ns, c0, c1, c2, c3, rfl, rfl⟩; rfl) (fun cdv A outer s H E hr => ?_)) (F.bindsN fun _ _ _ _ _ _ us hl => match us, hl with | [_, _, _], _ => rfl)
  have hu := hu_of hr
  have hu65 := hu65 hr
  refine ⟨_, (pss_cons (ps_set (i := 3) nd rfl (Or.inl rfl) (pe_lst pa_nil)) (pss_cons (ps_for PassesOwn.never rfl (pi_listK K (pv 1)) (pg_name (i := 4) nd rfl (Or.inr rfl)) (pss_one (ps_if (PW.pt (pw_and (pt_cmp (pc_notN (pe_callF (fn_law_box T) (hr.mono (by decide)) (pa_cons (pv 0) (pa_cons (pv 4) (pa_cons (pv 2) pa_nil)))))) (pw_and1 (pt_not (pt_val (pe_bi (crK_any K) T.b_any (by decide +kernel) (pa_cons (pe_lc (own := [("_law_one", 5)]) (by rfl) nd (pi_listK K (pv 3)) (blkOk_by (N := N_law_looked) (sc := defScope s_law_looked) (by decide +kernel)) (fun _ _ _ _ _ => (pg_name (i := 5) nd rfl (Or.inl rfl))) (fun _ _ _ _ _ => pts_nil) (fun _ _ _ _ _ => (pe_callF (fn_law_clash T) hr (pa_cons (pv 0) (pa_cons (pv 4) (pa_cons (pv 5) (pa_cons (pv 2) pa_nil))))))) pa_nil))))))) (pss_one (ps_expr (pe_bm PySem.F.plainAttrs_list PySem.F.slot_list_append PySem.F.type_list_append mt_append (pv 3) (pa_cons (pv 4) pa_nil)))) pss_nil))) (pss_one (ps_ret (pe_bt (crK_tuple K) T.b_tuple (by decide +kernel) (pa_cons (pe_sortSS K T.b_sorted T.b_set (pe_lc (own := [("_law_label", 4)]) (by rfl) nd (pi_listK K (pv 3)) (blkOk_by (N := N_law_looked) (sc := defScope s_law_looked) (by decide +kernel)) (fun _ _ _ _ _ => (pg_name (i := 4) nd rfl (Or.inl rfl))) (fun _ _ _ _ _ => pts_nil) (fun _ _ _ _ _ => (pe_ix (ixK_tup K) (pv 4) pe_int (fun _ _ => rfl))))) pa_nil)))))), ?_⟩
  rintro _ _ ⟨S, z, ls, ns, c0, c1, c2, c3, rfl, rfl⟩
  refine sd_own (s1_seq (s1_for (fun i => ((lookF S z [] (ls.take i)).map (labD K S), [some (dLore K S), some (dLst K (ls.map (labD K S))), some (dI z), none, none, none], List.replicate 6 none)) rfl (wdb_list rfl) fun i d hd => ?_) (s1_ret ?_)) (by show 3 < 6; decide)
  · obtain ⟨l, hl, hm, rfl⟩ := forE hd
    have hi := (List.getElem?_eq_some_iff.mp hl).1
    have hlen := lookF_len S z (ls.take i)
    rw [List.length_take] at hlen
    have hsub : ∀ o ∈ lookF S z [] (ls.take i), LabOk S z o := fun o ho => c0.2 o (List.mem_of_mem_take (lookF_sub S z _ o ho))
    refine ⟨_, _, gdi_name (imm_lab K S l), s1_wk (s1_if (td_and (td_B (ed_notSome (ed_call (eda_cons ed_var (eda_cons ed_var (eda_cons ed_var eda_nil))) ⟨_, _, _, ⟨c0.1, c0.2 l hm⟩, c1, rfl, rfl⟩) notN_tup)) fun _ => (td_not (td_B (ed_cb (eda_cons (ed_is (ed_lc0 (K := K) (lookF S z [] (ls.take i)) (labD K S) (fun o => dB (clashL S z l o)) (wd_list ed_var) (by omega) (by decide) (fun _ _ => imm_V _) fun o ho => ⟨_, gd_name, (ed_call (eda_cons ed_var (eda_cons ed_var (eda_cons ed_var (eda_cons ed_var eda_nil)))) ⟨_, _, _, _, ⟨c0.1, c0.2 l hm⟩, hsub o ho, c1, rfl, rfl⟩)⟩) (by rw [show (fun o => dB (clashL S z l o)) = (fun n => dB n) ∘ (clashL S z l) from rfl, ← List.map_map] <;> rfl)) eda_nil) (cd_any (K := K)))))) (o := .nx ((lookF S z [] (ls.take (i + 1))).map (labD K S)) [some (dLore K S), some (dLst K (ls.map (labD K S))), some (dI z), none, none, none] [none, none, none, none, some (labD K S l), none]) (fun hb => ?_) (fun hb => ?_)) (wk_c (wk_c (wk_c (wk_c (wk_c (wk_c wk_0)))))) (wk_c (wk_c (wk_c (wk_c (wk_n (wk_c wk_0)))))) nones_imm⟩
    · rw [lookF_next S z hl, if_neg (by rw [List.any_map] at hb; simpa using hb), List.map_append]
      exact s1_app ed_var (imm_lab K S l) (by rw [List.length_map]; omega) ⟨by show 3 < 6; decide, by show 3 < 6; decide⟩
    · rw [lookF_next S z hl, if_pos (by rw [List.any_map] at hb; simpa using hb)]
      exact s1_next
  · rw [List.length_map, List.take_length]
    have hlen := lookF_len S z ls
    refine ed_cb (eda_cons (ed_sortSS (ss := (lookF S z [] ls).map Lab.name) (ys := ns) (ed_is (ed_lc0 (K := K) (lookF S z [] ls) (labD K S) (fun l => dS l.name) (wd_list ed_var) (by omega) (by decide) (fun _ _ => imm_V _) fun o ho => ⟨_, gd_name, (ed_ixT ed_var ed_c rfl)⟩) (by rw [List.map_map] <;> rfl)) c3.1 c3.2 (by rw [List.length_map]; omega)) eda_nil) cd_tupL

/-! _law_is_number -/
def R_law_is_number (K : PySem.W.Frag) : List Dt → Dt → Prop := fun ds d => ∃ i : Int, ∃ lo : Int, ∃ hi : Int, ds = [dI i, dI lo, dI hi] ∧ d = dB (decide (lo ≤ i) && decide (i ≤ hi))
abbrev N_law_is_number : List Str := ["_law_value", "_law_low", "_law_high"]
theorem sc_law_is_number : FnScope N_law_is_number ["_law_value", "_law_low", "_law_high"] (defScope s_law_is_number) := ⟨rfl, rfl, rfl, by decide +kernel, rfl, by decide +kernel, by decide +kernel⟩
theorem fn_law_is_number (T : Tx w K mg) : Fn0 P w K mg base 1 "_law_is_number" ["_law_value", "_law_low", "_law_high"] (spP (R_law_is_number K)) := by
  obtain ⟨fd, F⟩ := T.f_law_is_number
  have nd := sc_law_is_number.nd
  refine mk_fn T.g_law_is_number F.kp (fn_pure F sc_law_is_number (by rintro _ _ ⟨i, lo, hi, rfl, rfl⟩; rfl) (fun cdv A outer s H E hr => ?_)) (F.bindsN fun _ _ _ _ _ _ us hl => match us, hl with | [_, _, _], _ => rfl)
  have hu := hu_of hr
  have hu65 := hu65 hr
  refine ⟨_, (pss_one (ps_ret (pe_and (pe_bi (crK_isi K) T.b_isinstance (by decide +kernel) (pa_cons (pv 0) (pa_cons (pe_gty (n := "int") T.b_int (by decide +kernel)) pa_nil))) (pe_and (pe_not (pe_bi (crK_isi K) T.b_isinstance (by decide +kernel) (pa_cons (pv 0) (pa_cons (pe_gty (n := "bool") T.b_bool (by decide +kernel)) pa_nil)))) (pe_one (pe_chain op_le op_le (pv 1) (pv 0) (pv 2) rfl)))))), ?_⟩
  rintro _ _ ⟨i, lo, hi, rfl, rfl⟩
  exact sd_ret (ed_andV (a := true) (ed_cb (eda_cons ed_var (eda_cons ed_c eda_nil)) (cd_isi tyd_I (by decide +kernel))) fun _ => (ed_andV (a := true) (ed_notV (ed_cb (eda_cons ed_var (eda_cons ed_c eda_nil)) (cd_isi tyd_I (by decide +kernel) (a := false)))) fun _ => (ed_chain ed_var ed_var ed_var)))

end
end Sl
namespace Sl
open PySem PySem.Spec PyProof.Rows L2 StX RZ
open Evl (Ex ex_l ex_t ex_rd sq_of st_of sz_of sz_lt fresh_back)
local macro_rules | `(tactic| walk_at "sd") => `(tactic| first | assumption | omega | decide | (constructor <;> assumption) | (constructor <;> omega))
section
variable {P : Program} {w : World} {K : PySem.W.Frag} {mg : Str → Option Value} {base : Heap}

theorem imm_key (K : PySem.W.Frag) (k : Int × Int × Str) : Imm (keyD K k) := imm_tup fun d hd => by
  simp only [List.mem_cons, List.not_mem_nil, or_false] at hd
  rcases hd with rfl | rfl | rfl <;> exact @imm_V _
theorem ordd_nodup {ls ls2 : List Lab} (hp : ls2.Perm ls) (h : (ls2.map fun l => l.name.cps.toList).Pairwise (· < ·)) : (ls.map Lab.name).Nodup := by
  have h1 := asc_nodup h
  have h2 : (ls2.map Lab.name).Nodup := by
    rw [show (ls2.map fun l => l.name.cps.toList) = (ls2.map Lab.name).map fun s => s.cps.toList by rw [List.map_map] <;> rfl] at h1
    exact List.Pairwise.of_map _ (fun _ _ h e => h (congrArg (fun s : Str => s.cps.toList) e)) h1
  exact (hp.map _).nodup_iff.mp h2
def tiledN (S : Sty) (z : Int) (ls : List Lab) (x y s : Int) (o : Option Int) (ns : List Str) : List Str := ns.filter fun n => decide (n ∈ ((ls.filter (knownL x y s o)).filter fun l => meetM S z l x y s).map Lab.name)
theorem inV_strs (n : Str) (ss : List Str) : inV (.str n) (ss.map V.str) = decide (n ∈ ss) := by
  induction ss with
  | nil => rfl
  | cons s ss ih =>
    have e : inV (.str n) ((s :: ss).map V.str) = (eqV (.str s) (.str n) || inV (.str n) (ss.map V.str)) := rfl
    rw [e, ih]
    show ((s == n) || _) = _
    by_cases h : n = s
    · subst h
      simp
    · have : (s == n) = false := beq_eq_false_iff_ne.mpr fun e => h e.symm
      rw [this]
      simp [h]
theorem ed_inLS {K : PySem.W.Frag} {ρ : Rho} {ta tb : TE} {n : Str} {ss : List Str} (ha : Ed ta ρ (dS n)) (hb : Ed tb ρ (dLst K (ss.map fun s => dS s))) : Ed (tOp (rIn K false) ta tb) ρ (dB (decide (n ∈ ss))) := ed_op ha hb fun H u v hu ⟨p, vs, a, b, c⟩ Q k => by
  have hu' : u = .str n := hu
  have hv := strs_all2 c
  subst hu' hv
  exact ⟨p, _, a, .inl (sq_of b), rfl, by rw [List.all_map]; exact List.all_eq_true.mpr fun _ _ => rfl, k _ H (Ex.refl H) (by rw [inV_strs]; rfl)⟩

/-! _law_ordered -/
def R_law_ordered (K : PySem.W.Frag) : List Dt → Dt → Prop := fun ds d => ∃ S : Sty, ∃ ls : List Lab, ∃ ls2 : List Lab, (S.Ok) ∧ (Ordd S ls ls2) ∧ ds = [dLore K S, dLst K (ls.map (labD K S))] ∧ d = dLst K (ls2.map (labD K S))
abbrev N_law_ordered : List Str := ["_law_lore_here", "_law_labels", "_law_keys", "_law_label", "_law_known", "_law_key"]
theorem sc_law_ordered : FnScope N_law_ordered ["_law_lore_here", "_law_labels"] (defScope s_law_ordered) := ⟨rfl, rfl, rfl, by decide +kernel, rfl, by decide +kernel, by decide +kernel⟩
theorem fn_law_ordered (T : Tx w K mg) : Fn0 P w K mg base 2 "_law_ordered" ["_law_lore_here", "_law_labels"] (spP (R_law_ordered K)) := by
  obtain ⟨fd, F⟩ := T.f_law_ordered
  have nd := sc_law_ordered.nd
  refine mk_fn T.g_law_ordered F.kp (fn_pure F sc_law_ordered (by rintro _ _ ⟨S, ls, ls2, c0, c1, rfl, rfl⟩; rfl) (fun cdv A outer s H E hr => ?_)) (F.bindsN fun _ _ _ _ _ _ us hl => match us, hl with | [_, _], _ => rfl)
  have hu := hu_of hr
  have hu65 := hu65 hr
  refine ⟨_, (pss_cons (ps_set (i := 2) nd rfl (Or.inl rfl) (pe_sortST K T.b_sorted T.b_set (pe_lc (own := [("_law_label", 3)]) (by rfl) nd (pi_listK K (pv 1)) (blkOk_by (N := N_law_ordered) (sc := defScope s_law_ordered) (by decide +kernel)) (fun _ _ _ _ _ => (pg_name (i := 3) nd rfl (Or.inl rfl))) (fun _ _ _ _ _ => pts_nil) (fun _ _ _ _ _ => (pe_tup (pa_cons (pe_callF (fn_law_rank T) hr (pa_cons (pv 0) (pa_cons (pv 3) pa_nil))) (pa_cons (pe_un un_neg (pe_ix (ixK_tup K) (pv 3) pe_int (fun _ _ => rfl))) (pa_cons (pe_ix (ixK_tup K) (pv 3) pe_int (fun _ _ => rfl)) pa_nil)))))))) (pss_cons (ps_set (i := 4) nd rfl (Or.inr rfl) (pe_bt (crK_dictP K) T.b_dict (by decide +kernel) (pa_cons (pe_lc (own := [("_law_label", 3)]) (by rfl) nd (pi_listK K (pv 1)) (blkOk_by (N := N_law_ordered) (sc := defScope s_law_ordered) (by decide +kernel)) (fun _ _ _ _ _ => (pg_name (i := 3) nd rfl (Or.inl rfl))) (fun _ _ _ _ _ => pts_nil) (fun _ _ _ _ _ => (pe_tup (pa_cons (pe_ix (ixK_tup K) (pv 3) pe_int (fun _ _ => rfl)) (pa_cons (pv 3) pa_nil))))) pa_nil))) (pss_one (ps_ret (pe_lc (own := [("_law_key", 5)]) (by rfl) nd (pi_listK K (pv 2)) (blkOk_by (N := N_law_ordered) (sc := defScope s_law_ordered) (by decide +kernel)) (fun _ _ _ _ _ => (pg_name (i := 5) nd rfl (Or.inl rfl))) (fun _ _ _ _ _ => pts_nil) (fun _ _ _ _ _ => (pe_dgetF hu (pv 4) (pe_ix (ixK_tup K) (pv 5) pe_int (fun _ _ => rfl)) (fun _ _ => rfl)))))))), ?_⟩
  rintro _ _ ⟨S, ls, ls2, c0, c1, rfl, rfl⟩
  obtain ⟨hf, ⟨r, hr, hrk⟩, hp, hlt⟩ := c1
  have hin : ∀ l ∈ ls, S.In l.rank := fun l hl => by rw [(hrk l hl).1]; exact hr
  have hnd : (ls.map Lab.name).Nodup := ordd_nodup hp hlt
  refine sd_seq (sd_set (ed_sortST (ks := ls.map keyOfL) (ys := ls2.map keyOfL) (r := r) (w := 0) (ed_is (ed_lc0 (K := K) ls (labD K S) (fun l => keyD K (keyOfL l)) (wd_list ed_var) (by omega) (by decide) (fun l _ => imm_key K _) fun l hl => ⟨_, gd_name, (ed_tup (eda_cons (ed_call (eda_cons ed_var (eda_cons ed_var eda_nil)) ⟨_, _, c0, hin l hl, rfl, rfl⟩) (eda_cons (ed_neg (ed_ixT ed_var ed_c rfl)) (eda_cons (ed_ixT ed_var ed_c rfl) eda_nil))) (by simp))⟩) (by rw [List.map_map] <;> rfl)) (fun k hk => by
    obtain ⟨l, hl, rfl⟩ := List.mem_map.mp hk
    exact ⟨(hrk l hl).1, by show -l.weight = 0; rw [(hrk l hl).2]; rfl⟩) (hp.map _) (by unfold Asc; rw [List.map_map, List.map_map]; exact hlt) (by rw [List.length_map]; omega))) ?_
  refine sd_seq (sd_set (ed_cb (eda_cons (ed_is (ed_lc0 (K := K) ls (labD K S) (fun l => dTup K [dS l.name, labD K S l]) (wd_list ed_var) (by omega) (by decide) (fun l _ => imm_tup fun d hd => by
    simp only [List.mem_cons, List.not_mem_nil, or_false] at hd
    rcases hd with rfl | rfl
    · exact @imm_V _
    · exact imm_lab K S l) fun l hl => ⟨_, gd_name, (ed_tup (eda_cons (ed_ixT ed_var ed_c rfl) (eda_cons ed_var eda_nil)) (by simp))⟩) (by rw [show (fun l => dTup K [dS (Lab.name l), labD K S l]) = (fun k : Str × Dt => dTup K [dS k.1, k.2]) ∘ (fun l => (l.name, labD K S l)) from rfl, ← List.map_map] <;> rfl)) eda_nil) (cd_dictP (kds := ls.map fun l => (l.name, labD K S l)) (by rw [List.map_map]; exact hnd)))) (sd_ret ?_)
  refine ed_lc0 (K := K) ls2 (fun l => keyD K (keyOfL l)) (labD K S) (wd_is (wd_list ed_var) (by rw [List.map_map] <;> rfl)) (by rw [hp.length_eq]; omega) (by decide) (fun l _ => imm_lab K S l) fun l hl => ⟨_, gd_name, (ed_dgetN ed_var (ed_ixT ed_var ed_c rfl) (by rw [List.map_map]; exact hnd) (List.mem_map.mpr ⟨l, hp.mem_iff.mp hl, rfl⟩))⟩

/-! _law_shown -/
def R_law_shown (K : PySem.W.Frag) : List Dt → Dt → Prop := fun ds d => ∃ S : Sty, ∃ z : Int, ∃ ls : List Lab, ∃ ls2 : List Lab, ∃ ns : List Str, (S.Ok) ∧ (Ordd S ls ls2) ∧ (∀ l ∈ ls2, LabOk S z l) ∧ (0 ≤ z ∧ z ≤ S.last) ∧ (NamesOf ns (lookF S z [] ls2)) ∧ ds = [dLore K S, dLst K (ls.map (labD K S)), dI z] ∧ d = dTup K (ns.map fun s => dS s)
abbrev N_law_shown : List Str := ["_law_lore_here", "_law_labels", "_law_zoom"]
theorem sc_law_shown : FnScope N_law_shown ["_law_lore_here", "_law_labels", "_law_zoom"] (defScope s_law_shown) := ⟨rfl, rfl, rfl, by decide +kernel, rfl, by decide +kernel, by decide +kernel⟩
theorem fn_law_shown (T : Tx w K mg) : Fn0 P w K mg base 7 "_law_shown" ["_law_lore_here", "_law_labels", "_law_zoom"] (spP (R_law_shown K)) := by
  obtain ⟨fd, F⟩ := T.f_law_shown
  have nd := sc_law_shown.nd
  refine mk_fn T.g_law_shown F.kp (fn_pure F sc_law_shown (by rintro _ _ ⟨S, z, ls, ls2, ns, c0, c1, c2, c3, c4, rfl, rfl⟩; rfl) (fun cdv A outer s H E hr => ?_)) (F.bindsN fun _ _ _ _ _ _ us hl => match us, hl with | [_, _, _], _ => rfl)
  have hu := hu_of hr
  have hu65 := hu65 hr
  refine ⟨_, (pss_one (ps_ret (pe_callF (fn_law_looked T) hr (pa_cons (pv 0) (pa_cons (pe_callF (fn_law_ordered T) (hr.mono (by decide)) (pa_cons (pv 0) (pa_cons (pv 1) pa_nil))) (pa_cons (pv 2) pa_nil)))))), ?_⟩
  rintro _ _ ⟨S, z, ls, ls2, ns, c0, c1, c2, c3, c4, rfl, rfl⟩
  exact sd_ret (ed_call (eda_cons ed_var (eda_cons (ed_call (eda_cons ed_var (eda_cons ed_var eda_nil)) ⟨_, _, _, c0, c1, rfl, rfl⟩) (eda_cons ed_var eda_nil))) ⟨_, _, _, _, ⟨c0, c2⟩, c3, by rw [c1.pm.length_eq]; exact c1.few, c4, rfl, rfl⟩)

/-! _law_tiled -/
def R_law_tiled (K : PySem.W.Frag) : List Dt → Dt → Prop := fun ds d => ∃ S : Sty, ∃ z : Int, ∃ ls : List Lab, ∃ x : Int, ∃ y : Int, ∃ s : Int, ∃ o : Option Int, ∃ ls2 : List Lab, ∃ ns : List Str, (S.Ok) ∧ (ls.length ≤ 30) ∧ (∀ l ∈ ls, LabOk S z l) ∧ (0 ≤ z ∧ z ≤ S.last) ∧ (Ordd S (ls.filter (knownL x y s o)) ls2) ∧ (NamesOf ns (lookF S z [] ls2)) ∧ ds = [dLore K S, labsD K S ls, dI z, tileD K x y s, dO o] ∧ d = dTup K ((tiledN S z ls x y s o ns).map fun s => dS s)
abbrev N_law_tiled : List Str := ["_law_lore_here", "_law_labels", "_law_zoom", "_law_tile", "_law_strip", "_law_known", "_law_label", "_law_there", "_law_name_here"]
theorem sc_law_tiled : FnScope N_law_tiled ["_law_lore_here", "_law_labels", "_law_zoom", "_law_tile", "_law_strip"] (defScope s_law_tiled) := ⟨rfl, rfl, rfl, by decide +kernel, rfl, by decide +kernel, by decide +kernel⟩
theorem fn_law_tiled (T : Tx w K mg) : Fn0 P w K mg base 8 "_law_tiled" ["_law_lore_here", "_law_labels", "_law_zoom", "_law_tile", "_law_strip"] (spP (R_law_tiled K)) := by
  obtain ⟨fd, F⟩ := T.f_law_tiled
  have nd := sc_law_tiled.nd
  refine mk_fn T.g_law_tiled F.kp (fn_pure F sc_law_tiled (by rintro _ _ ⟨S, z, ls, x, y, s, o, ls2, ns, c0, c1, c2, c3, c4, c5, rfl, rfl⟩; rfl) (fun cdv A outer s H E hr => ?_)) (F.bindsN fun _ _ _ _ _ _ us hl => match us, hl with | [_, _, _, _, _], _ => rfl)
  have hu := hu_of hr
  have hu65 := hu65 hr
  refine ⟨_, (pss_cons (ps_setLc (i := 5) (own := [("_law_label", 6)]) rfl nd rfl rfl (sw_true rfl rfl rfl (by decide +kernel)) (pi_tupK K (pv 1)) (blkOk_by (N := N_law_tiled) (sc := defScope s_law_tiled) (by decide +kernel)) (fun _ _ _ _ _ => (pg_name (i := 6) nd rfl (Or.inl rfl))) (fun _ _ _ _ _ => pts_one (PW.pt (pw_or (pt_cmp (pc_isN (pv 4))) (pw_or1 (pt_val (pe_callF (fn_law_by T) (hr.mono (by decide)) (pa_cons (pv 6) (pa_cons (pv 3) (pa_cons (pv 4) pa_nil))))))))) (fun _ _ _ _ _ => (pv 6))) (pss_cons (ps_set (i := 7) nd rfl (Or.inr rfl) (pe_lc (own := [("_law_label", 6)]) (by rfl) nd (pi_listK K (pv 5)) (blkOk_by (N := N_law_tiled) (sc := defScope s_law_tiled) (by decide +kernel)) (fun _ _ _ _ _ => (pg_name (i := 6) nd rfl (Or.inl rfl))) (fun _ _ _ _ _ => pts_one (pt_val (pe_callF (fn_law_meets T) (hr.mono (by decide)) (pa_cons (pv 0) (pa_cons (pv 6) (pa_cons (pv 3) (pa_cons (pv 2) pa_nil))))))) (fun _ _ _ _ _ => (pe_ix (ixK_tup K) (pv 6) pe_int (fun _ _ => rfl))))) (pss_one (ps_ret (pe_bt (crK_tuple K) T.b_tuple (by decide +kernel) (pa_cons (pe_lc (own := [("_law_name_here", 8)]) (by rfl) nd (pi_tupK K (pe_callF (fn_law_shown T) hr (pa_cons (pv 0) (pa_cons (pv 5) (pa_cons (pv 2) pa_nil))))) (blkOk_by (N := N_law_tiled) (sc := defScope s_law_tiled) (by decide +kernel)) (fun _ _ _ _ _ => (pg_name (i := 8) nd rfl (Or.inl rfl))) (fun _ _ _ _ _ => pts_one (pt_cmpR (opK_in K) (pv 8) (pv 7) (by rfl))) (fun _ _ _ _ _ => (pv 8))) pa_nil)))))), ?_⟩
  rintro _ _ ⟨S, z, ls, x, y, s, o, ls2, ns, c0, c1, c2, c3, c4, c5, rfl, rfl⟩
  have hk : ∀ l ∈ ls.filter (knownL x y s o), LabOk S z l := fun l hl => c2 l (List.mem_filter.mp hl).1
  have hz := List.length_filter_le (knownL x y s o) ls
  have hT : ∀ l ∈ ls, ∀ ρ : Rho, ρ[4]? = some (some (dO o)) → ρ[3]? = some (some (tileD K x y s)) → ρ[6]? = some (some (labD K S l)) → Td (tOr (tB (tIsN (tVar 4))) (tB (tCall (spP (R_law_by K)) [] E0 (tCons (tVar 6) (tCons (tVar 3) (tCons (tVar 4) tNil)))))) ρ (knownL x y s o l) := fun l hl ρ h3 h2 h5 => by
    cases o with
    | none => exact td_or (a := true) (b := true) (td_B (ed_isNone (ed_var h3))) fun h => absurd h (by decide)
    | some t => exact td_or (td_B (ed_isSome (ed_var h3) (notN_V (by simp)))) fun _ => td_B (ed_call (eda_cons (ed_var h5) (eda_cons (ed_var h2) (eda_cons (ed_var h3) eda_nil))) ⟨S, l, x, y, s, t, rfl, rfl⟩)
  refine sd_seq (sd_set (ed_lc (K := K) ls (labD K S) (knownL x y s o) (labD K S) (wd_tup ed_var) (by omega) (by decide) (fun l _ _ => imm_lab K S l) fun l hl => ⟨_, gd_name, hT l hl _ rfl rfl rfl, fun _ => ed_var⟩)) ?_
  have hz2 := List.length_filter_le (fun l => meetM S z l x y s) (ls.filter (knownL x y s o))
  refine sd_seq (sd_set (ed_lc (K := K) (ls.filter (knownL x y s o)) (labD K S) (fun l => meetM S z l x y s) (fun l => dS l.name) (wd_list ed_var) (by omega) (by decide) (fun l _ _ => imm_V _) fun l hl => ⟨_, gd_name, td_B (ed_call (eda_cons ed_var (eda_cons ed_var (eda_cons ed_var (eda_cons ed_var eda_nil)))) ⟨_, _, _, _, _, _, ⟨c0, hk l hl⟩, c3, rfl, rfl⟩), fun _ => (ed_ixT ed_var ed_c rfl)⟩)) (sd_ret ?_)
  have hnl : ns.length ≤ 30 := by
    have h1 := c5.1.length_eq
    have h2 := lookF_len S z ls2
    have h3 := c4.pm.length_eq
    rw [List.length_map] at h1
    omega
  exact ed_cb (eda_cons (ed_is (ed_lc (K := K) ns (fun n => dS n) (fun n => decide (n ∈ ((ls.filter (knownL x y s o)).filter fun l => meetM S z l x y s).map Lab.name)) (fun n => dS n) (wd_tup (ed_call (eda_cons ed_var (eda_cons ed_var (eda_cons ed_var eda_nil))) ⟨_, _, _, _, _, c0, c4, (fun l hl => hk l (c4.pm.mem_iff.mp hl)), c3, c5, rfl, rfl⟩)) (by omega) (by decide) (fun _ _ _ => imm_V _) fun n hn => ⟨_, gd_name, td_test (ed_inLS (K := K) ed_var (ed_is ed_var (by rw [List.map_map] <;> rfl))), fun _ => ed_var⟩) rfl) eda_nil) cd_tupL

end
end Sl
namespace Sl
open PySem PySem.Spec PyProof.Rows L2 StX RZ
open Evl (Ex ex_l ex_t ex_rd sq_of st_of sz_of sz_lt fresh_back)
local macro_rules | `(tactic| walk_at "sd") => `(tactic| first | assumption | omega | decide | (constructor <;> assumption) | (constructor <;> omega))
section
variable {P : Program} {w : World} {K : PySem.W.Frag} {mg : Str → Option Value} {base : Heap}

abbrev rReprS : List V → Hp → VK → Prop := fun xs H Q => ∃ s : Str, xs = [.str s] ∧ (reprText s).length ≤ 100000 ∧ Q (.str (reprText s)) H
theorem cr_reprS {X : Cx} : CallR X (.builtin "repr") rReprS := by
  intro pins s σ H xs us Q I r h
  obtain ⟨i, rfl, hz, q⟩ := h
  obtain ⟨u, rfl, t, rfl⟩ := vals1 r
  exact PySem.P.repr_of_str ⟨.str _, H, I.tok _, ⟨_, rfl⟩, q⟩ (sz_of hz)
theorem cd_reprS {s : Str} (h : (reprText s).length ≤ 100000) : CD rReprS [dS s] (dS (reprText s)) := fun H vs h' Q q => by
  obtain ⟨v, rfl, e⟩ := all2_1 h'
  have e' : v = .str s := e
  subst e'
  exact ⟨s, rfl, h, q _ H (Ex.refl H) rfl⟩
def clsP (r : Row) : PyData := .tuple [.str r.name, .int r.first, .int r.least, .int r.most, .tuple (r.sizes.map .int)]
theorem pd_one {x d : Dt} {y e : PyData} {i : Nat} (h : PD K x y) (h1 : [x][i]? = some d) (h2 : [y][i]? = some e) : PD K d e := match i, h1, h2 with
  | 0, h1, h2 => by
    cases h1
    cases h2
    exact h
  | _ + 1, h1, _ => by simp at h1
theorem pd_cls (r : Row) : PD K (clsD K r) (clsP r) := pd_tup rfl fun i d e h1 h2 => match i, h1, h2 with
  | 0, h1, h2 => by cases h1; cases h2; exact pd_S
  | 1, h1, h2 => by cases h1; cases h2; exact pd_I
  | 2, h1, h2 => by cases h1; cases h2; exact pd_I
  | 3, h1, h2 => by cases h1; cases h2; exact pd_I
  | 4, h1, h2 => by
    cases h1
    cases h2
    exact pd_tupM r.sizes fun n => pd_I
  | _ + 5, h1, _ => by simp at h1
theorem ints_layI : ∀ ns : List Int, PyData.canLayAll0 (ns.map PyData.int) = true ∧ PyData.depthAll (ns.map PyData.int) = 0
  | [] => ⟨rfl, rfl⟩
  | k :: ns => by
    obtain ⟨h1, h2⟩ := ints_layI ns
    constructor
    · simp [PyData.canLayAll0, PyData.canLay0, h1]
    · simp [PyData.depthAll, PyData.depth, h2]
theorem name_ok {s : Str} (h : IsName s) : PyData.strOk s = true := by
  unfold PyData.strOk
  rw [← Array.all_toList, List.all_eq_true]
  intro c hc
  have := h.2.2 c hc
  unfold isLow at this
  exact decide_eq_true (by omega)
theorem shaped_cls (r : Row) (hn : IsName r.name) : SeqAt.shaped (.list [clsP r]) = true := by
  obtain ⟨h1, h2⟩ := ints_layI r.sizes
  simp [SeqAt.shaped, clsP, PyData.canLay0, PyData.canLayAll0, PyData.depth, PyData.depthAll, h1, h2, name_ok hn]
theorem strs_lay : ∀ ns : List Str, (∀ s ∈ ns, IsName s) → PyData.canLayAll0 (ns.map PyData.str) = true ∧ PyData.depthAll (ns.map PyData.str) = 0
  | [], _ => ⟨rfl, rfl⟩
  | k :: ns, h => by
    obtain ⟨h1, h2⟩ := strs_lay ns fun s hs => h s (List.mem_cons_of_mem _ hs)
    have h3 := name_ok (h k List.mem_cons_self)
    constructor
    · simp [PyData.canLayAll0, PyData.canLay0, h1, h3]
    · simp [PyData.depthAll, PyData.depth, h2]
theorem shaped_strs (ns : List Str) (hn : ∀ s ∈ ns, IsName s) : SeqAt.shaped (.tuple (ns.map PyData.str)) = true := by
  obtain ⟨h1, h2⟩ := strs_lay ns hn
  simp [SeqAt.shaped, PyData.canLay0, PyData.depth, h1, h2]
theorem one_row {S : Sty} {i : Int} (h : S.Ok) (hi : S.In i) : S.rows.filter (fun r => decide (r.name = (S.row i).name)) = [S.row i] := by
  have key : ∀ (l : List Row) (j : Nat) (r : Row), (l.map Row.name).Nodup → l[j]? = some r → l.filter (fun q => decide (q.name = r.name)) = [r] := by
    intro l
    induction l with
    | nil => intro j r _ h; simp at h
    | cons p l ih =>
      intro j r nd hj
      have nd' := List.nodup_cons.mp nd
      cases j with
      | zero =>
        have e : p = r := by simpa using hj
        subst e
        rw [List.filter_cons, if_pos (by simp)]
        congr 1
        refine List.filter_eq_nil_iff.mpr fun q hq e => nd'.1 ?_
        have e' := of_decide_eq_true e
        rw [← e']
        exact List.mem_map_of_mem hq
      | succ j =>
        have hj' : l[j]? = some r := by simpa using hj
        have ne : ¬ p.name = r.name := fun e => nd'.1 (by
          rw [e]
          exact List.mem_map_of_mem (List.mem_of_getElem? hj'))
        rw [List.filter_cons, if_neg (by simpa using ne), ih j r nd'.2 hj']
  exact key S.rows i.toNat _ h.nd hi.get
theorem tiled_names {S : Sty} {z : Int} {ls la : List Lab} {x y s : Int} {o : Option Int} {na : List Str} (hv : ∀ l ∈ ls, IsName l.name) (ho : Ordd S (ls.filter (knownL x y s o)) la) (hn : NamesOf na (lookF S z [] la)) : ∀ n ∈ tiledN S z ls x y s o na, IsName n := fun n h => by
  have h1 := (List.mem_filter.mp h).1
  obtain ⟨l, hl, rfl⟩ := List.mem_map.mp (hn.1.mem_iff.mp h1)
  exact hv l (List.mem_filter.mp (ho.pm.mem_iff.mp (lookF_sub S z la l hl))).1

/-! _law_is_title -/
def R_law_is_title (K : PySem.W.Frag) : List Dt → Dt → Prop := fun ds d => ∃ s : Str, (IsName s) ∧ ds = [dS s] ∧ d = dB true
abbrev N_law_is_title : List Str := ["_law_value", "_law_sign"]
theorem sc_law_is_title : FnScope N_law_is_title ["_law_value"] (defScope s_law_is_title) := ⟨rfl, rfl, rfl, by decide +kernel, rfl, by decide +kernel, by decide +kernel⟩
theorem fn_law_is_title (T : Tx w K mg) : Fn0 P w K mg base 1 "_law_is_title" ["_law_value"] (spP (R_law_is_title K)) := by
  obtain ⟨fd, F⟩ := T.f_law_is_title
  have nd := sc_law_is_title.nd
  refine mk_fn T.g_law_is_title F.kp (fn_pure F sc_law_is_title (by rintro _ _ ⟨s, c0, rfl, rfl⟩; rfl) (fun cdv A outer s H E hr => ?_)) (F.bindsN fun _ _ _ _ _ _ us hl => match us, hl with | [_], _ => rfl)
  have hu := hu_of hr
  have hu65 := hu65 hr
  refine ⟨_, (pss_cons (ps_if (PW.pt (pw_or (pt_not (pt_val (pe_bi (crK_isi K) T.b_isinstance (by decide +kernel) (pa_cons (pv 0) (pa_cons (pe_gty (n := "str") T.b_str (by decide +kernel)) pa_nil))))) (pw_or1 (pt_not (pt_chain op_le op_le pe_int (pe_bi call_len_str T.b_len (by decide +kernel) (pa_cons (pv 0) pa_nil)) pe_int rfl))))) (pss_one (ps_ret pe_bl)) pss_nil) (pss_one (ps_ret (pe_bi (crK_all K) T.b_all (by decide +kernel) (pa_cons (pe_lc (own := [("_law_sign", 1)]) (by rfl) nd (pi_str (pv 0)) (blkOk_by (N := N_law_is_title) (sc := defScope s_law_is_title) (by decide +kernel)) (fun _ _ _ _ _ => (pg_name (i := 1) nd rfl (Or.inl rfl))) (fun _ _ _ _ _ => pts_nil) (fun _ _ _ _ _ => (pe_cmpR op_in_sign (pv 1) pe_str rfl))) pa_nil))))), ?_⟩
  rintro _ _ ⟨s, c0, rfl, rfl⟩
  have hl := c0.2.1
  refine sd_ifR (td_or (td_not (td_B (ed_cb (eda_cons ed_var (eda_cons ed_c eda_nil)) (cd_isi tyd_S (by decide +kernel) (a := true))))) fun _ => (td_not (td_test (ed_chain ed_c (ed_cb (eda_cons ed_var eda_nil) (cd_lenS (by omega))) ed_c)))) (fun hb => ?_) (fun hb => ?_)
  · have h1 := c0.1
    rw [show decide ((1 : Int) ≤ (s.length : Int)) = true from decide_eq_true (by omega), show decide ((s.length : Int) ≤ 12) = true from decide_eq_true (by omega)] at hb
    exact absurd hb (by decide)
  · refine sd_ret (ed_is (ed_cb (eda_cons (ed_is (ed_lc0 (K := K) s.cps.toList (fun c => dS ⟨#[c]⟩) (fun c => dB (decide (c ∈ lowers.cps.toList))) (wd_str ed_var) (by rw [← len_cps]; omega) (by decide) (fun _ _ => imm_V _) fun c hc => ⟨_, gd_name, (ed_inSign ed_var ed_c)⟩) (by rw [show (fun c => dB (decide (c ∈ lowers.cps.toList))) = (fun n => dB n) ∘ fun c => decide (c ∈ lowers.cps.toList) from rfl, ← List.map_map] <;> rfl)) eda_nil) (cd_all (K := K))) ?_)
    rw [all_true_map _ _ fun c hc => decide_eq_true (mem_lowers.mpr (c0.2.2 c hc))]

/-! _law_is_label -/
def R_law_is_label (K : PySem.W.Frag) : List Dt → Dt → Prop := fun ds d => ∃ S : Sty, ∃ l : Lab, (S.Ok) ∧ (LabV S l) ∧ ds = [dLore K S, labD K S l] ∧ d = dB true
abbrev N_law_is_label : List Str := ["_law_lore_here", "_law_value", "_law_rows_here", "_law_one"]
theorem sc_law_is_label : FnScope N_law_is_label ["_law_lore_here", "_law_value"] (defScope s_law_is_label) := ⟨rfl, rfl, rfl, by decide +kernel, rfl, by decide +kernel, by decide +kernel⟩
theorem fn_law_is_label (T : Tx w K mg) : Fn0 P w K mg base 2 "_law_is_label" ["_law_lore_here", "_law_value"] (spP (R_law_is_label K)) := by
  obtain ⟨fd, F⟩ := T.f_law_is_label
  have nd := sc_law_is_label.nd
  refine mk_fn T.g_law_is_label F.kp (fn_pure F sc_law_is_label (by rintro _ _ ⟨S, l, c0, c1, rfl, rfl⟩; rfl) (fun cdv A outer s H E hr => ?_)) (F.bindsN fun _ _ _ _ _ _ us hl => match us, hl with | [_, _], _ => rfl)
  have hu := hu_of hr
  have hu65 := hu65 hr
  refine ⟨_, (pss_cons (ps_if (PW.pt (pw_or (pt_not (pt_val (pe_bi (crK_isi K) T.b_isinstance (by decide +kernel) (pa_cons (pv 1) (pa_cons (pe_gty (n := "tuple") T.b_tuple (by decide +kernel)) pa_nil))))) (pw_or (pt_cmpR op_ne (pe_bi (crK_len K) T.b_len (by decide +kernel) (pa_cons (pv 1) pa_nil)) pe_int (nomark _)) (pw_or1 (pt_not (pt_val (pe_callF (fn_law_is_title T) hr (pa_cons (pe_ix (ixK_tup K) (pv 1) pe_int (fun _ _ => rfl)) pa_nil)))))))) (pss_one (ps_ret pe_bl)) pss_nil) (pss_cons (ps_setLc (i := 2) (own := [("_law_one", 3)]) rfl nd rfl rfl (sw_true rfl rfl rfl (by decide +kernel)) (pi_listK K (pe_dgetF hu (pv 0) pe_str (fun _ _ => rfl))) (blkOk_by (N := N_law_is_label) (sc := defScope s_law_is_label) (by decide +kernel)) (fun _ _ _ _ _ => (pg_name (i := 3) nd rfl (Or.inl rfl))) (fun _ _ _ _ _ => pts_one (PW.pt (pw_and (pt_val (pe_bi (crK_isi K) T.b_isinstance (by decide +kernel) (pa_cons (pe_ix (ixK_tup K) (pv 1) pe_int (fun _ _ => rfl)) (pa_cons (pe_gty (n := "str") T.b_str (by decide +kernel)) pa_nil)))) (pw_and1 (pt_cmpR op_eq (pe_ix (ixK_tup K) (pv 3) pe_int (fun _ _ => rfl)) (pe_ix (ixK_tup K) (pv 1) pe_int (fun _ _ => rfl)) (nomark _)))))) (fun _ _ _ _ _ => (pv 3))) (pss_cons (ps_if (PW.pt (pw_or (pt_cmpR (opK_eqD K hu65) (pv 2) (pe_lst pa_nil) (nomark _)) (pw_or (pt_not (pt_val (pe_callF (fn_law_is_number T) hr (pa_cons (pe_ix (ixK_tup K) (pv 1) pe_int (fun _ _ => rfl)) (pa_cons (pe_ix (ixK_tup K) (pe_ix (ixK_list K) (pv 2) pe_int (fun _ _ => rfl)) pe_int (fun _ _ => rfl)) (pa_cons (pe_ix (ixK_tup K) (pe_ix (ixK_list K) (pv 2) pe_int (fun _ _ => rfl)) pe_int (fun _ _ => rfl)) pa_nil)))))) (pw_or1 (pt_not (pt_val (pe_callF (fn_law_is_number T) hr (pa_cons (pe_ix (ixK_tup K) (pv 1) pe_int (fun _ _ => rfl)) (pa_cons pe_int (pa_cons pe_int pa_nil)))))))))) (pss_one (ps_ret pe_bl)) pss_nil) (pss_one (ps_ret (pe_and (pe_callF (fn_law_is_number T) hr (pa_cons (pe_ix (ixK_tup K) (pv 1) pe_int (fun _ _ => rfl)) (pa_cons (pe_un un_neg pe_int) (pa_cons pe_int pa_nil)))) (pe_one (pe_callF (fn_law_is_number T) hr (pa_cons (pe_ix (ixK_tup K) (pv 1) pe_int (fun _ _ => rfl)) (pa_cons (pe_un un_neg pe_int) (pa_cons pe_int pa_nil))))))))))), ?_⟩
  rintro _ _ ⟨S, l, c0, c1, rfl, rfl⟩
  have hv := c1
  refine sd_ifR (td_or (td_not (td_B (ed_cb (eda_cons ed_var (eda_cons ed_c eda_nil)) (cd_isi tyd_T (by decide +kernel) (a := true))))) fun _ => (td_or (td_test (ed_neI (ed_cb (eda_cons ed_var eda_nil) cd_lenT) ed_c)) fun _ => (td_not (td_B (ed_call (eda_cons (ed_ixT ed_var ed_c rfl) eda_nil) ⟨_, hv.nm, rfl, rfl⟩))))) (fun hb => absurd hb (by simp)) (fun _ => ?_)
  refine sd_seq (sd_set (ed_is (ed_lc (K := K) S.rows (clsD K) (fun r => decide (r.name = (S.row l.rank).name)) (clsD K) (wd_list (ed_lc_ ed_var)) (by have := c0.n4; omega) (by decide) (fun r _ _ => imm_cls K r) fun r hr => ⟨_, gd_name, td_and (a := true) (td_B (ed_cb (eda_cons (ed_ixT ed_var ed_c rfl) (eda_cons ed_c eda_nil)) (cd_isi tyd_S (by decide +kernel)))) fun _ => (td_test (ed_eqS (ed_ixT ed_var ed_c rfl) (ed_ixT ed_var ed_c rfl))), fun _ => ed_var⟩) (x' := dLst K [clsD K (S.row l.rank)]) (by rw [one_row c0 hv.rk]; rfl))) ?_
  refine sd_ifR (td_or (td_test (ed_eqD ed_var (ed_lst (K := K) eda_nil (by simp)) (pd_lst (ds := [clsD K (S.row l.rank)]) (es := [clsP (S.row l.rank)]) rfl (fun i d e h1 h2 => pd_one (pd_cls _) h1 h2)) (pd_lst (ds := []) (es := []) rfl (fun i d e h => by simp at h)) (shaped_cls _ (hv.rk.ok c0).nm) (by decide))) fun _ => (td_or (td_not (td_B (ed_call (eda_cons (ed_ixT ed_var ed_c rfl) (eda_cons (ed_ixT (ed_ixL (K := K) ed_var ed_c rfl) ed_c rfl) (eda_cons (ed_ixT (ed_ixL (K := K) ed_var ed_c rfl) ed_c rfl) eda_nil))) ⟨_, _, _, rfl, rfl⟩))) fun _ => (td_not (td_B (ed_call (eda_cons (ed_ixT ed_var ed_c rfl) (eda_cons ed_c (eda_cons ed_c eda_nil))) ⟨_, _, _, rfl, rfl⟩))))) (fun hb => ?_) (fun _ => sd_ret ?_)
  · have h := hv.ok
    simp only [Bool.and_eq_true, decide_eq_true_eq] at h
    obtain ⟨⟨h1, h2⟩, ⟨h3, h4⟩, _⟩ := h
    rw [decide_eq_true h1, decide_eq_true h2, decide_eq_true h3, decide_eq_true h4] at hb
    exact absurd (show false = true from hb) (by decide)
  · refine ed_is (ed_andV (ed_call (eda_cons (ed_ixT ed_var ed_c rfl) (eda_cons (ed_neg ed_c) (eda_cons ed_c eda_nil))) ⟨_, _, _, rfl, rfl⟩) fun _ => (ed_call (eda_cons (ed_ixT ed_var ed_c rfl) (eda_cons (ed_neg ed_c) (eda_cons ed_c eda_nil))) ⟨_, _, _, rfl, rfl⟩)) ?_
    have h := hv.ok
    simp only [Bool.and_eq_true, decide_eq_true_eq] at h
    obtain ⟨⟨h1, h2⟩, ⟨h3, h4⟩, ⟨h5, h6⟩, h7, h8⟩ := h
    rw [decide_eq_true h5, decide_eq_true h6, decide_eq_true h7, decide_eq_true h8]
    rfl

/-! _law_is_tile -/
def R_law_is_tile (K : PySem.W.Frag) : List Dt → Dt → Prop := fun ds d => ∃ x : Int, ∃ y : Int, ∃ s : Int, ((decide (-99999 ≤ x) && decide (x ≤ 99999) && (decide (-99999 ≤ y) && decide (y ≤ 99999) && (decide (1 ≤ s) && decide (s ≤ 9999)))) = true) ∧ ds = [tileD K x y s] ∧ d = dB true
abbrev N_law_is_tile : List Str := ["_law_value", "_law_places", "_law_one"]
theorem sc_law_is_tile : FnScope N_law_is_tile ["_law_value"] (defScope s_law_is_tile) := ⟨rfl, rfl, rfl, by decide +kernel, rfl, by decide +kernel, by decide +kernel⟩
theorem fn_law_is_tile (T : Tx w K mg) : Fn0 P w K mg base 2 "_law_is_tile" ["_law_value"] (spP (R_law_is_tile K)) := by
  obtain ⟨fd, F⟩ := T.f_law_is_tile
  have nd := sc_law_is_tile.nd
  refine mk_fn T.g_law_is_tile F.kp (fn_pure F sc_law_is_tile (by rintro _ _ ⟨x, y, s, c0, rfl, rfl⟩; rfl) (fun cdv A outer s H E hr => ?_)) (F.bindsN fun _ _ _ _ _ _ us hl => match us, hl with | [_], _ => rfl)
  have hu := hu_of hr
  have hu65 := hu65 hr
  refine ⟨_, (pss_cons (ps_if (PW.pt (pw_or (pt_not (pt_val (pe_bi (crK_isi K) T.b_isinstance (by decide +kernel) (pa_cons (pv 0) (pa_cons (pe_gty (n := "tuple") T.b_tuple (by decide +kernel)) pa_nil))))) (pw_or1 (pt_cmpR op_ne (pe_bi (crK_len K) T.b_len (by decide +kernel) (pa_cons (pv 0) pa_nil)) pe_int (nomark _))))) (pss_one (ps_ret pe_bl)) pss_nil) (pss_cons (ps_setLc (i := 1) (own := [("_law_one", 2)]) rfl nd rfl rfl (sw_true rfl rfl rfl (by decide +kernel)) (pi_tupK K (pe_slice (slK_tupA K) (pv 0) po_none (po_some pe_int))) (blkOk_by (N := N_law_is_tile) (sc := defScope s_law_is_tile) (by decide +kernel)) (fun _ _ _ _ _ => (pg_name (i := 2) nd rfl (Or.inl rfl))) (fun _ _ _ _ _ => pts_nil) (fun _ _ _ _ _ => (pe_callF (fn_law_is_number T) hr (pa_cons (pv 2) (pa_cons (pe_un un_neg pe_int) (pa_cons pe_int pa_nil)))))) (pss_one (ps_ret (pe_and (pe_bi (crK_all K) T.b_all (by decide +kernel) (pa_cons (pv 1) pa_nil)) (pe_one (pe_callF (fn_law_is_number T) hr (pa_cons (pe_ix (ixK_tup K) (pv 0) pe_int (fun _ _ => rfl)) (pa_cons pe_int (pa_cons pe_int pa_nil)))))))))), ?_⟩
  rintro _ _ ⟨x, y, s, c0, rfl, rfl⟩
  simp only [Bool.and_eq_true, decide_eq_true_eq] at c0
  obtain ⟨⟨h1, h2⟩, ⟨h3, h4⟩, h5, h6⟩ := c0
  refine sd_ifR (td_or (td_not (td_B (ed_cb (eda_cons ed_var (eda_cons ed_c eda_nil)) (cd_isi tyd_T (by decide +kernel) (a := true))))) fun _ => (td_test (ed_neI (ed_cb (eda_cons ed_var eda_nil) cd_lenT) ed_c))) (fun hb => absurd hb (by simp)) (fun _ => ?_)
  refine sd_seq (sd_set (ed_is (ed_lc0 (K := K) [x, y] (fun n => dI n) (fun n => dB (decide (-99999 ≤ n) && decide (n ≤ 99999))) (wd_is (wd_tup (ed_slT ed_var edo_none (edo_some ed_c))) rfl) (by simp) (by decide) (fun _ _ => imm_V _) fun n hn => ⟨_, gd_name, (ed_call (eda_cons ed_var (eda_cons (ed_neg ed_c) (eda_cons ed_c eda_nil))) ⟨_, _, _, rfl, rfl⟩)⟩) (x' := dLst K ([true, true].map fun b => dB b)) (by
    show dLst K [dB (decide (-99999 ≤ x) && decide (x ≤ 99999)), dB (decide (-99999 ≤ y) && decide (y ≤ 99999))] = _
    rw [decide_eq_true h1, decide_eq_true h2, decide_eq_true h3, decide_eq_true h4]
    rfl))) (sd_ret ?_)
  refine ed_is (ed_andV (ed_cb (eda_cons ed_var eda_nil) (cd_all (K := K))) fun _ => (ed_call (eda_cons (ed_ixT ed_var ed_c rfl) (eda_cons ed_c (eda_cons ed_c eda_nil))) ⟨_, _, _, rfl, rfl⟩)) ?_
  rw [decide_eq_true h5, decide_eq_true h6]
  rfl

/-! _law_are_labels -/
def R_law_are_labels (K : PySem.W.Frag) : List Dt → Dt → Prop := fun ds d => ∃ S : Sty, ∃ ls : List Lab, (S.Ok) ∧ (Sheet S ls) ∧ ds = [dLore K S, labsD K S ls] ∧ d = dB true
abbrev N_law_are_labels : List Str := ["_law_lore_here", "_law_value", "_law_at", "_law_label", "_law_one"]
theorem sc_law_are_labels : FnScope N_law_are_labels ["_law_lore_here", "_law_value"] (defScope s_law_are_labels) := ⟨rfl, rfl, rfl, by decide +kernel, rfl, by decide +kernel, by decide +kernel⟩
theorem fn_law_are_labels (T : Tx w K mg) : Fn0 P w K mg base 4 "_law_are_labels" ["_law_lore_here", "_law_value"] (spP (R_law_are_labels K)) := by
  obtain ⟨fd, F⟩ := T.f_law_are_labels
  have nd := sc_law_are_labels.nd
  refine mk_fn T.g_law_are_labels F.kp (fn_pure F sc_law_are_labels (by rintro _ _ ⟨S, ls, c0, c1, rfl, rfl⟩; rfl) (fun cdv A outer s H E hr => ?_)) (F.bindsN fun _ _ _ _ _ _ us hl => match us, hl with | [_, _], _ => rfl)
  have hu := hu_of hr
  have hu65 := hu65 hr
  refine ⟨_, (pss_cons (ps_if (PW.pt (pw_or (pt_not (pt_val (pe_bi (crK_isi K) T.b_isinstance (by decide +kernel) (pa_cons (pv 1) (pa_cons (pe_gty (n := "tuple") T.b_tuple (by decide +kernel)) pa_nil))))) (pw_or1 (pt_cmpR op_gt (pe_bi (crK_len K) T.b_len (by decide +kernel) (pa_cons (pv 1) pa_nil)) pe_int (nomark _))))) (pss_one (ps_ret pe_bl)) pss_nil) (pss_cons (ps_for PassesOwn.never rfl (pi_enumTK K T.b_enumerate (pa_cons (pv 1) pa_nil)) (pg_tupK K (n := 2) (pgs_cons (pg_name (i := 2) nd rfl (Or.inl rfl)) (pgs_cons (pg_name (i := 3) nd rfl (Or.inr rfl)) pgs_nil))) (pss_cons (ps_if (pt_not (pt_val (pe_callF (fn_law_is_label T) (hr.mono (by decide)) (pa_cons (pv 0) (pa_cons (pv 3) pa_nil))))) (pss_one (ps_ret pe_bl)) pss_nil) (pss_one (ps_if (pt_val (pe_bi (crK_any K) T.b_any (by decide +kernel) (pa_cons (pe_lc (own := [("_law_one", 4)]) (by rfl) nd (pi_tupK K (pe_slice (slK_tupA K) (pv 1) po_none (po_some (pv 2)))) (blkOk_by (N := N_law_are_labels) (sc := defScope s_law_are_labels) (by decide +kernel)) (fun _ _ _ _ _ => (pg_name (i := 4) nd rfl (Or.inl rfl))) (fun _ _ _ _ _ => pts_nil) (fun _ _ _ _ _ => (pe_or (pe_cmpR op_eq (pe_ix (ixK_tup K) (pv 4) pe_int (fun _ _ => rfl)) (pe_ix (ixK_tup K) (pv 3) pe_int (fun _ _ => rfl)) (nomark _)) (pe_one (pe_callF (fn_law_is_near T) hr (pa_cons (pv 0) (pa_cons (pv 4) (pa_cons (pv 3) pa_nil)))))))) pa_nil))) (pss_one (ps_ret pe_bl)) pss_nil)))) (pss_one (ps_ret pe_bl)))), ?_⟩
  rintro _ _ ⟨S, ls, c0, c1, rfl, rfl⟩
  have hz := c1.1
  refine sd_ifR (td_or (td_not (td_B (ed_cb (eda_cons ed_var (eda_cons ed_c eda_nil)) (cd_isi tyd_T (by decide +kernel) (a := true))))) fun _ => (td_test (ed_gt (ed_cb (eda_cons ed_var eda_nil) cd_lenT) ed_c))) (fun hb => ?_) (fun _ => ?_)
  · rw [List.length_map, decide_eq_false (show ¬ (30 : Int) < (ls.length : Int) by omega)] at hb
    exact absurd hb (by decide)
  refine sd_seq (sd_for (wd_enumT (eda_cons ed_var eda_nil)) (fun _ => [some (dLore K S), some (labsD K S ls), none, none, none]) (Wk.refl _) fun i d hd => ?_) (sd_ret ed_c)
  obtain ⟨d0, h0, rfl⟩ := numbered_at hd
  obtain ⟨l, hl, hm, rfl⟩ := forE h0
  have hi := (List.getElem?_eq_some_iff.mp hl).1
  obtain ⟨h1, h2⟩ := c1.2 i l hl
  refine ⟨_, _, gd_tup (gds_cons gd_name (gds_cons gd_name gds_nil)), sd_wk (sd_seq (sd_if (td_not (td_B (ed_call (eda_cons ed_var (eda_cons ed_var eda_nil)) ⟨_, _, c0, h1, rfl, rfl⟩))) (fun hb => absurd hb (by decide)) (fun hb => sd_next)) (sd_if (td_B (ed_cb (eda_cons (ed_is (ed_lc0 (K := K) (ls.take i) (labD K S) (fun o => dB (decide (o.name = l.name) || decide (gapL o l < S.dist o.rank l.rank))) (wd_is (wd_tup (ed_slT ed_var edo_none (edo_some ed_var))) (by rw [cutD_to _ _ (by rw [List.length_map]; omega), List.map_take])) (by rw [List.length_take]; omega) (by decide) (fun _ _ => imm_V _) fun o ho => ⟨_, gd_name, (ed_orV (ed_eqS (ed_ixT ed_var ed_c rfl) (ed_ixT ed_var ed_c rfl)) fun _ => (ed_call (eda_cons ed_var (eda_cons ed_var (eda_cons ed_var eda_nil))) ⟨_, _, _, c0, (h2 o ho).1, h1.rk, rfl, rfl⟩))⟩) (x' := dLst K (((ls.take i).map fun o => decide (o.name = l.name) || decide (gapL o l < S.dist o.rank l.rank)).map fun b => dB b)) (by rw [List.map_map] <;> rfl)) eda_nil) (cd_any (K := K)))) (fun hb => ?_) (fun hb => sd_next))) (wk_c (wk_c (wk_n (wk_n (wk_c wk_0)))))⟩
  rw [List.any_map, List.any_eq_true] at hb
  obtain ⟨o, ho, hc⟩ := hb
  obtain ⟨g1, g2, g3⟩ := h2 o ho
  have hc' : (decide (o.name = l.name) || decide (gapL o l < S.dist o.rank l.rank)) = true := hc
  rw [decide_eq_false g2, decide_eq_false (show ¬ gapL o l < S.dist o.rank l.rank by omega)] at hc'
  exact absurd hc' (by decide)

/-! _law_is_cut -/
def R_law_is_cut (K : PySem.W.Frag) : List Dt → Dt → Prop := fun ds d => ∃ S : Sty, ∃ z : Int, ∃ t : Int, ∃ ls : List Lab, ∃ la : List Lab, ∃ na : List Str, ∃ lb : List Lab, ∃ nb : List Str, (S.Ok) ∧ (0 ≤ z ∧ z ≤ S.last) ∧ (Sheet S ls) ∧ (∀ l ∈ ls, LabOk S z l) ∧ (Ordd S (ls.filter (knownL 50000 0 1 none)) la ∧ NamesOf na (lookF S z [] la)) ∧ (Ordd S (ls.filter (knownL 50000 0 1 (some t))) lb ∧ NamesOf nb (lookF S z [] lb)) ∧ (PyData.eqv (.tuple ((tiledN S z ls 50000 0 1 none na).map .str)) (.tuple ((tiledN S z ls 50000 0 1 (some t) nb).map .str)) = false) ∧ ds = [dLore K S, dI z, dI t, dTup K [dS "cut", tileD K 50000 0 1, labsD K S ls]] ∧ d = dB true
abbrev N_law_is_cut : List Str := ["_law_lore_here", "_law_zoom", "_law_strip", "_law_value", "_law_tile", "_law_labels"]
theorem sc_law_is_cut : FnScope N_law_is_cut ["_law_lore_here", "_law_zoom", "_law_strip", "_law_value"] (defScope s_law_is_cut) := ⟨rfl, rfl, rfl, by decide +kernel, rfl, by decide +kernel, by decide +kernel⟩
theorem fn_law_is_cut (T : Tx w K mg) : Fn0 P w K mg base 9 "_law_is_cut" ["_law_lore_here", "_law_zoom", "_law_strip", "_law_value"] (spP (R_law_is_cut K)) := by
  obtain ⟨fd, F⟩ := T.f_law_is_cut
  have nd := sc_law_is_cut.nd
  refine mk_fn T.g_law_is_cut F.kp (fn_pure F sc_law_is_cut (by rintro _ _ ⟨S, z, t, ls, la, na, lb, nb, c0, c1, c2, c3, c4, c5, c6, rfl, rfl⟩; rfl) (fun cdv A outer s H E hr => ?_)) (F.bindsN fun _ _ _ _ _ _ us hl => match us, hl with | [_, _, _, _], _ => rfl)
  have hu := hu_of hr
  have hu65 := hu65 hr
  refine ⟨_, (pss_cons (ps_if (PW.pt (pw_or (pt_not (pt_val (pe_bi (crK_isi K) T.b_isinstance (by decide +kernel) (pa_cons (pv 3) (pa_cons (pe_gty (n := "tuple") T.b_tuple (by decide +kernel)) pa_nil))))) (pw_or (pt_cmpR op_ne (pe_bi (crK_len K) T.b_len (by decide +kernel) (pa_cons (pv 3) pa_nil)) pe_int (nomark _)) (pw_or1 (pt_cmpR op_ne (pe_bi cr_reprS T.b_repr (by decide +kernel) (pa_cons (pe_ix (ixK_tup K) (pv 3) pe_int (fun _ _ => rfl)) pa_nil)) (pe_bi cr_reprS T.b_repr (by decide +kernel) (pa_cons pe_str pa_nil)) (nomark _)))))) (pss_one (ps_ret pe_bl)) pss_nil) (pss_cons (ps_asg (pe_slice (slK_tupA K) (pv 3) (po_some pe_int) po_none) (pg_tupK K (n := 2) (pgs_cons (pg_name (i := 4) nd rfl (Or.inl rfl)) (pgs_cons (pg_name (i := 5) nd rfl (Or.inl rfl)) pgs_nil)))) (pss_cons (ps_if (PW.pt (pw_or (pt_not (pt_val (pe_callF (fn_law_is_tile T) (hr.mono (by decide)) (pa_cons (pv 4) pa_nil)))) (pw_or1 (pt_not (pt_val (pe_callF (fn_law_are_labels T) (hr.mono (by decide)) (pa_cons (pv 0) (pa_cons (pv 5) pa_nil)))))))) (pss_one (ps_ret pe_bl)) pss_nil) (pss_one (ps_ret (pe_cmpR (opK_neD K hu65) (pe_callF (fn_law_tiled T) hr (pa_cons (pv 0) (pa_cons (pv 5) (pa_cons (pv 1) (pa_cons (pv 4) (pa_cons pe_non pa_nil)))))) (pe_callF (fn_law_tiled T) hr (pa_cons (pv 0) (pa_cons (pv 5) (pa_cons (pv 1) (pa_cons (pv 4) (pa_cons (pv 2) pa_nil)))))) (nomark _))))))), ?_⟩
  rintro _ _ ⟨S, z, t, ls, la, na, lb, nb, c0, c1, c2, c3, c4, c5, c6, rfl, rfl⟩
  have hnm : ∀ l ∈ ls, IsName l.name := fun l hl => by
    obtain ⟨i, hi⟩ := List.getElem?_of_mem hl
    exact (c2.2 i l hi).1.nm
  refine sd_ifR (td_or (td_not (td_B (ed_cb (eda_cons ed_var (eda_cons ed_c eda_nil)) (cd_isi tyd_T (by decide +kernel) (a := true))))) fun _ => (td_or (td_test (ed_neI (ed_cb (eda_cons ed_var eda_nil) cd_lenT) ed_c)) fun _ => (td_test (ed_neS (ed_cb (eda_cons (ed_ixT ed_var ed_c rfl) eda_nil) (cd_reprS (by decide +kernel))) (ed_cb (eda_cons ed_c eda_nil) (cd_reprS (by decide +kernel))))))) (fun hb => absurd hb (by simp)) (fun _ => ?_)
  refine sd_seq (sd_asg (ed_is (ed_slT ed_var (edo_some ed_c) edo_none) (x' := dTup K [tileD K 50000 0 1, labsD K S ls]) rfl) (gd_tup (gds_cons gd_name (gds_cons gd_name gds_nil)))) ?_
  refine sd_ifR (td_or (td_not (td_B (ed_call (eda_cons ed_var eda_nil) ⟨_, _, _, by decide, rfl, rfl⟩))) fun _ => (td_not (td_B (ed_call (eda_cons ed_var (eda_cons ed_var eda_nil)) ⟨_, _, c0, c2, rfl, rfl⟩)))) (fun hb => absurd hb (by decide)) (fun _ => sd_ret ?_)
  refine ed_is (ed_neD (ed_call (eda_cons ed_var (eda_cons ed_var (eda_cons ed_var (eda_cons ed_var (eda_cons ed_c eda_nil))))) ⟨S, z, ls, _, _, _, none, la, na, c0, c2.1, c3, c1, c4.1, c4.2, rfl, rfl⟩) (ed_call (eda_cons ed_var (eda_cons ed_var (eda_cons ed_var (eda_cons ed_var (eda_cons ed_var eda_nil))))) ⟨S, z, ls, _, _, _, some t, lb, nb, c0, c2.1, c3, c1, c5.1, c5.2, rfl, rfl⟩) (pd_tupM _ fun s => pd_S) (pd_tupM _ fun s => pd_S) (shaped_strs _ (tiled_names hnm c4.1 c4.2)) (shaped_strs _ (tiled_names hnm c5.1 c5.2))) ?_
  rw [c6]
  rfl

end
end Sl
namespace Sl
open PySem PySem.Spec PyProof.Rows L2 StX RZ
open Evl (Ex ex_l ex_t ex_rd sq_of st_of sz_of sz_lt fresh_back)
local macro_rules | `(tactic| walk_at "sd") => `(tactic| first | assumption | omega | decide | (constructor <;> assumption) | (constructor <;> omega))
section
variable {P : Program} {w : World} {K : PySem.W.Frag} {mg : Str → Option Value} {base : Heap}

open TL
def numS (n : Nat) : Str := Str.ofString (toString ((n : Nat) : Int))
theorem numL_head : ∀ n : Nat, ∃ c r, numL n = c :: r ∧ (n = 0 ∨ c ≠ 48) := fun n => by
  induction n using Nat.strongRecOn with
  | ind n ih =>
    by_cases h : n < 10
    · exact ⟨48 + n, [], numL_lt h, by omega⟩
    · obtain ⟨c, r, hc, hz⟩ := ih (n / 10) (by omega)
      rw [numL_step (by omega), hc]
      exact ⟨c, r ++ [48 + n % 10], rfl, .inr (by
        rcases hz with hz | hz
        · omega
        · exact hz)⟩
theorem numS_tl (n : Nat) : (numS n).cps.toList = numL n := tl_num n
theorem numS_ne (n : Nat) : ¬ numS n = ("" : Str) := fun e => numL_ne n (by
  rw [← numS_tl, e]
  decide +kernel)
theorem numS_dig (n : Nat) : ∀ c ∈ (numS n).cps.toList, 48 ≤ c ∧ c ≤ 57 := fun c hc => by
  rw [numS_tl] at hc
  exact numL_digits n c hc
theorem pg_unlK (K : PySem.W.Frag) {X : Cx} {pos : Pos} {es : List Expr} {k : Nat} {t : TGs} {n : Nat} (h : PGs X es t) (hX : X.K = K := by rfl) (hc : X.calm = true := by rfl) (hn : (assignEach es X.env).length = n := by rfl) (hst : (assignEach es X.env).findIdx? (·.1) = none := by rfl) : PG X (.Tuple es k pos) (gUnl K n t) := hX ▸ pg_unl hc h hn hst
theorem gd_unl {ρ ρ' : Rho} {gs : TGs} {ds : List Dt} {js : List Nat} (h : GdS gs ds js ρ ρ') : Gd (gUnl K ds.length gs) (dLst K ds) js ρ ρ' := fun v H σ ⟨p, vs, a, b, c⟩ e Q q =>
  ⟨p, vs, a, sq_of b, c.len.symm, h vs H σ c e Q q⟩
def GoodSizes (ns : List Int) : Prop := 1 ≤ ns.length ∧ ns.length ≤ 5 ∧ (∀ n ∈ ns, 2 ≤ n ∧ n ≤ 9) ∧ ∀ p ∈ ns.zip (ns.drop 1), p.2 ≤ 2 * p.1
theorem shaped_intT (ns : List Int) : SeqAt.shaped (.tuple (ns.map PyData.int)) = true := by
  obtain ⟨h1, h2⟩ := ints_layI ns
  simp [SeqAt.shaped, PyData.canLay0, PyData.depth, h1, h2]
theorem zip_sizes (ns : List Int) : zipD K (ns.map fun n => dI n) (cutD (ns.map fun n => dI n) (some 1) none) = (ns.zip (ns.drop 1)).map fun p => dTup K [dI p.1, dI p.2] := by
  have e1 : cutD (ns.map fun n => dI n) (some 1) none = (ns.drop 1).map fun n => dI n := by
    unfold cutD
    rw [List.length_map, show (1 : Int) = ((1 : Nat) : Int) from rfl, HT.sIx_nat, HT.sIx_none]
    cases ns with
    | nil => rfl
    | cons a ns =>
      rw [show min 1 (a :: ns).length = 1 by simp]
      simp
      exact List.take_of_length_le (by simp)
  rw [e1]
  unfold zipD
  rw [List.zip_map, List.map_map]
  rfl
/-- the words of a class's line -/
def rowWords (r : Row) : List Str := [("class" : Str), r.name, numS r.first.toNat, numS r.least.toNat, numS r.most.toNat] ++ r.sizes.map fun n => numS n.toNat
theorem cut_words (r : Row) : cutD ((rowWords r).map fun s => dS s) (some 2) (some 5) = [r.first.toNat, r.least.toNat, r.most.toNat].map fun n => dS (numS n) := by
  unfold cutD
  rw [show (2 : Int) = ((2 : Nat) : Int) from rfl, show (5 : Int) = ((5 : Nat) : Int) from rfl, HT.sIx_nat, HT.sIx_nat]
  have hl : ((rowWords r).map fun s => dS s).length = 5 + r.sizes.length := by simp [rowWords]; omega
  rw [hl, show min 2 (5 + r.sizes.length) = 2 by omega, show min 5 (5 + r.sizes.length) = 5 by omega]
  rfl
theorem cut_words2 (r : Row) : cutD ((rowWords r).map fun s => dS s) (some 5) none = r.sizes.map fun n => dS (numS n.toNat) := by
  unfold cutD
  rw [show (5 : Int) = ((5 : Nat) : Int) from rfl, HT.sIx_nat, HT.sIx_none]
  have hl : ((rowWords r).map fun s => dS s).length = 5 + r.sizes.length := by simp [rowWords]; omega
  rw [hl, show min 5 (5 + r.sizes.length) = 5 by omega]
  have e : ((rowWords r).map fun s => dS s).drop 5 = r.sizes.map fun n => dS (numS n.toNat) := by
    unfold rowWords
    rw [List.map_append, List.map_map]
    rfl
  rw [e]
  exact List.take_of_length_le (by simp)

/-! whole_in -/
def R_whole_in (K : PySem.W.Frag) : List Dt → Dt → Prop := fun ds d => ∃ n : Nat, (n < 1000000) ∧ ds = [dS (numS n)] ∧ d = dI (n : Int)
abbrev N_whole_in : List Str := ["word", "sign"]
theorem sc_whole_in : FnScope N_whole_in ["word"] (defScope s_whole_in) := ⟨rfl, rfl, rfl, by decide +kernel, rfl, by decide +kernel, by decide +kernel⟩
theorem fn_whole_in (T : Tx w K mg) : Fn0 P w K mg base 1 "whole_in" ["word"] (spP (R_whole_in K)) := by
  obtain ⟨fd, F⟩ := T.f_whole_in
  have nd := sc_whole_in.nd
  refine mk_fn T.g_whole_in F.kp (fn_pure F sc_whole_in (by rintro _ _ ⟨n, c0, rfl, rfl⟩; rfl) (fun cdv A outer s H E hr => ?_)) (F.bindsN fun _ _ _ _ _ _ us hl => match us, hl with | [_], _ => rfl)
  have hu := hu_of hr
  have hu65 := hu65 hr
  refine ⟨_, (pss_cons (ps_if (PW.pt (pw_or (pt_cmpR op_eq (pv 0) pe_str (nomark _)) (pw_or1 (pt_not (pt_val (pe_bi (crK_all K) T.b_all (by decide +kernel) (pa_cons (pe_lc (own := [("sign", 1)]) (by rfl) nd (pi_str (pv 0)) (blkOk_by (N := N_whole_in) (sc := defScope s_whole_in) (by decide +kernel)) (fun _ _ _ _ _ => (pg_name (i := 1) nd rfl (Or.inl rfl))) (fun _ _ _ _ _ => pts_nil) (fun _ _ _ _ _ => (pe_cmpR op_in_sign (pv 1) (pe_gstr T.c_FIGURES) rfl))) pa_nil))))))) (pss_one (ps_ret pe_non)) pss_nil) (pss_one (ps_ret (pe_ifExp (PW.pt (pw_or (pt_cmpR op_eq (pv 0) (pe_gstr T.c_ZERO) (nomark _)) (pw_or1 (pt_cmpR op_ne (pe_ix ix_str (pv 0) pe_int (fun _ _ => rfl)) (pe_gstr T.c_ZERO) (nomark _))))) (pe_bt call_int_str T.b_int (by decide +kernel) (pa_cons (pv 0) pa_nil)) pe_non)))), ?_⟩
  rintro _ _ ⟨n, c0, rfl, rfl⟩
  obtain ⟨c0', r, hc, hz⟩ := numL_head n
  have htl : (numS n).cps.toList = c0' :: r := (tl_num n).trans hc
  have hlen : (numS n).length ≤ 6 := by rw [len_cps, show (numS n).cps.toList = numL n from tl_num n]; exact numL_len (by decide) c0
  refine sd_ifR (td_or (td_test (ed_eqS ed_var ed_c)) fun _ => (td_not (td_B (ed_cb (eda_cons (ed_is (ed_lc0 (K := K) (numS n).cps.toList (fun c => dS ⟨#[c]⟩) (fun c => dB (decide (c ∈ figures.cps.toList))) (wd_str ed_var) (by rw [← len_cps]; omega) (by decide) (fun _ _ => imm_V _) fun c hc => ⟨_, gd_name, (ed_inSign ed_var ed_c)⟩) (by rw [show (fun c => dB (decide (c ∈ figures.cps.toList))) = (fun n => dB n) ∘ fun c => decide (c ∈ figures.cps.toList) from rfl, ← List.map_map] <;> rfl)) eda_nil) (cd_all (K := K)))))) (fun hb => ?_) (fun _ => sd_ret ?_)
  · rw [decide_eq_false (numS_ne n), all_true_map _ _ fun c hc => decide_eq_true (mem_figures.mpr (numS_dig n c hc))] at hb
    exact absurd hb (by decide)
  · refine ed_if (td_or (td_test (ed_eqS ed_var ed_c)) fun _ => (td_test (ed_neS (ed_ixS ed_var ed_c (by omega) (atI_in (by decide) (by rw [htl]; rfl))) ed_c))) (fun _ => (ed_cb (eda_cons ed_var eda_nil) (cd_intS (s := numS n) (int_num (n := n) (Nat.le_trans (numL_len (k := 6) (by decide) c0) (by decide))) (by omega)))) (fun hb => ?_)
    rw [Bool.or_eq_false_iff] at hb
    rcases hz with rfl | hz
    · exact absurd hb.1 (by decide +kernel)
    · have h2 := hb.2
      rw [decide_eq_false (fun e => hz (by
        have := congrArg (fun s : Str => s.cps.toList) e
        have h3 : ([c0'] : List Nat) = ("0" : Str).cps.toList := this
        rw [show ("0" : Str).cps.toList = [48] by decide +kernel] at h3
        exact List.head_eq_of_cons_eq h3))] at h2
      exact absurd h2 (by decide)

/-! are_sizes -/
def R_are_sizes (K : PySem.W.Frag) : List Dt → Dt → Prop := fun ds d => ∃ ns : List Int, (GoodSizes ns) ∧ ds = [tupI K ns] ∧ d = dB true
abbrev N_are_sizes : List Str := ["sizes", "size", "later"]
theorem sc_are_sizes : FnScope N_are_sizes ["sizes"] (defScope s_are_sizes) := ⟨rfl, rfl, rfl, by decide +kernel, rfl, by decide +kernel, by decide +kernel⟩
theorem fn_are_sizes (T : Tx w K mg) : Fn0 P w K mg base 3 "are_sizes" ["sizes"] (spP (R_are_sizes K)) := by
  obtain ⟨fd, F⟩ := T.f_are_sizes
  have nd := sc_are_sizes.nd
  refine mk_fn T.g_are_sizes F.kp (fn_pure F sc_are_sizes (by rintro _ _ ⟨ns, c0, rfl, rfl⟩; rfl) (fun cdv A outer s H E hr => ?_)) (F.bindsN fun _ _ _ _ _ _ us hl => match us, hl with | [_], _ => rfl)
  have hu := hu_of hr
  have hu65 := hu65 hr
  refine ⟨_, (pss_cons (ps_if (PW.pt (pw_or (pt_cmpR (opK_eqD K hu65) (pv 0) (pe_tup pa_nil) (nomark _)) (pw_or1 (pt_not (pt_val (pe_bi (crK_all K) T.b_all (by decide +kernel) (pa_cons (pe_lc (own := [("size", 1)]) (by rfl) nd (pi_tupK K (pv 0)) (blkOk_by (N := N_are_sizes) (sc := defScope s_are_sizes) (by decide +kernel)) (fun _ _ _ _ _ => (pg_name (i := 1) nd rfl (Or.inl rfl))) (fun _ _ _ _ _ => pts_nil) (fun _ _ _ _ _ => (pe_callF (fn_is_between T) hr (pa_cons (pv 1) (pa_cons (pe_gint T.c_LEAST_SIZE) (pa_cons (pe_gint T.c_MOST_SIZE) pa_nil)))))) pa_nil))))))) (pss_one (ps_ret pe_bl)) pss_nil) (pss_one (ps_ret (pe_bi (crK_all K) T.b_all (by decide +kernel) (pa_cons (pe_lc (own := [("size", 1), ("later", 2)]) (by rfl) nd (pi_zipK K T.b_zip (pa_cons (pv 0) (pa_cons (pe_slice (slK_tupA K) (pv 0) (po_some pe_int) po_none) pa_nil))) (blkOk_by (N := N_are_sizes) (sc := defScope s_are_sizes) (by decide +kernel)) (fun _ _ _ _ _ => (pg_tupK K (n := 2) (pgs_cons (pg_name (i := 1) nd rfl (Or.inl rfl)) (pgs_cons (pg_name (i := 2) nd rfl (Or.inl rfl)) pgs_nil)))) (fun _ _ _ _ _ => pts_nil) (fun _ _ _ _ _ => (pe_cmpR op_le (pv 2) (pe_op op_mul pe_int (pv 1)) (nomark _)))) pa_nil))))), ?_⟩
  rintro _ _ ⟨ns, c0, rfl, rfl⟩
  obtain ⟨h1, h2, h3, h4⟩ := c0
  refine sd_ifR (td_or (td_test (ed_eqD (K := K) ed_var (ed_tup (K := K) eda_nil (by simp)) (pd_tupM ns fun n => pd_I) (pd_tup (ds := []) (es := []) rfl (fun i d e h => by simp at h)) (shaped_intT ns) (by decide))) fun _ => (td_not (td_B (ed_cb (eda_cons (ed_is (ed_lc0 (K := K) ns (fun n => dI n) (fun n => dB (decide (2 ≤ n) && decide (n ≤ 9))) (wd_tup ed_var) (by omega) (by decide) (fun _ _ => imm_V _) fun n hn => ⟨_, gd_name, (ed_call (eda_cons ed_var (eda_cons ed_c (eda_cons ed_c eda_nil))) ⟨_, _, _, rfl, rfl⟩)⟩) (by rw [show (fun n : Int => dB (decide (2 ≤ n) && decide (n ≤ 9))) = (fun n => dB n) ∘ fun n : Int => (decide (2 ≤ n) && decide (n ≤ 9)) from rfl, ← List.map_map] <;> rfl)) eda_nil) (cd_all (K := K)))))) (fun hb => ?_) (fun _ => sd_ret ?_)
  · rw [all_true_map _ _ fun n hn => by rw [decide_eq_true (h3 n hn).1, decide_eq_true (h3 n hn).2]; rfl] at hb
    cases ns with
    | nil => simp at h1
    | cons a ns => exact absurd (show false = true from hb) (by decide)
  · refine ed_is (ed_cb (eda_cons (ed_is (ed_lc0 (K := K) (ns.zip (ns.drop 1)) (fun p => dTup K [dI p.1, dI p.2]) (fun p => dB (decide (p.2 ≤ 2 * p.1))) (wd_is (wd_zipT (eda_cons ed_var (eda_cons (ed_slT ed_var (edo_some ed_c) edo_none) eda_nil))) (zip_sizes ns)) (by simp; omega) (by decide) (fun _ _ => imm_V _) fun p hp => ⟨_, gd_tup (gds_cons gd_name (gds_cons gd_name gds_nil)), (ed_le ed_var (ed_mul ed_c ed_var (.inl ⟨by decide, by decide⟩)))⟩) (by rw [show (fun p : Int × Int => dB (decide (p.2 ≤ 2 * p.1))) = (fun n => dB n) ∘ fun p : Int × Int => decide (p.2 ≤ 2 * p.1) from rfl, ← List.map_map] <;> rfl)) eda_nil) (cd_all (K := K))) ?_
    rw [all_true_map _ _ fun p hp => decide_eq_true (h4 p hp)]

/-! class_row -/
def R_class_row (K : PySem.W.Frag) : List Dt → Dt → Prop := fun ds d => ∃ r : Row, ∃ last : Int, (r.Ok last ∧ last ≤ 4) ∧ (GoodSizes r.sizes) ∧ ds = [dLst K ((rowWords r).map fun s => dS s), dI last] ∧ d = dRow K r
abbrev N_class_row : List Str := ["words", "last", "first", "least", "most", "word", "sizes"]
theorem sc_class_row : FnScope N_class_row ["words", "last"] (defScope s_class_row) := ⟨rfl, rfl, rfl, by decide +kernel, rfl, by decide +kernel, by decide +kernel⟩
theorem fn_class_row (T : Tx w K mg) : Fn0 P w K mg base 4 "class_row" ["words", "last"] (spP (R_class_row K)) := by
  obtain ⟨fd, F⟩ := T.f_class_row
  have nd := sc_class_row.nd
  refine mk_fn T.g_class_row F.kp (fn_pure F sc_class_row (by rintro _ _ ⟨r, last, c0, c1, rfl, rfl⟩; rfl) (fun cdv A outer s H E hr => ?_)) (F.bindsN fun _ _ _ _ _ _ us hl => match us, hl with | [_, _], _ => rfl)
  have hu := hu_of hr
  have hu65 := hu65 hr
  refine ⟨_, (pss_cons (ps_if (PW.pt (pw_or (pt_cmpR op_lt (pe_bi (crK_len K) T.b_len (by decide +kernel) (pa_cons (pv 0) pa_nil)) (pe_gint T.c_CLASS_WORDS) (nomark _)) (pw_or1 (pt_not (pt_val (pe_callF (fn_is_name T) (hr.mono (by decide)) (pa_cons (pe_ix (ixK_list K) (pv 0) pe_int (fun _ _ => rfl)) pa_nil))))))) (pss_one (ps_ret pe_non)) pss_nil) (pss_cons (ps_asg (pe_lc (own := [("word", 5)]) (by rfl) nd (pi_listK K (pe_slice (slK_list K) (pv 0) (po_some pe_int) (po_some (pe_gint T.c_SIZES_AT)))) (blkOk_by (N := N_class_row) (sc := defScope s_class_row) (by decide +kernel)) (fun _ _ _ _ _ => (pg_name (i := 5) nd rfl (Or.inl rfl))) (fun _ _ _ _ _ => pts_nil) (fun _ _ _ _ _ => (pe_callF (fn_whole_in T) (hr.mono (by decide)) (pa_cons (pv 5) pa_nil)))) (pg_unlK K (n := 3) (pgs_cons (pg_name (i := 2) nd rfl (Or.inl rfl)) (pgs_cons (pg_name (i := 3) nd rfl (Or.inl rfl)) (pgs_cons (pg_name (i := 4) nd rfl (Or.inl rfl)) pgs_nil))))) (pss_cons (ps_set (i := 6) nd rfl (Or.inl rfl) (pe_bt (crK_tuple K) T.b_tuple (by decide +kernel) (pa_cons (pe_lc (own := [("word", 5)]) (by rfl) nd (pi_listK K (pe_slice (slK_list K) (pv 0) (po_some (pe_gint T.c_SIZES_AT)) po_none)) (blkOk_by (N := N_class_row) (sc := defScope s_class_row) (by decide +kernel)) (fun _ _ _ _ _ => (pg_name (i := 5) nd rfl (Or.inl rfl))) (fun _ _ _ _ _ => pts_nil) (fun _ _ _ _ _ => (pe_callF (fn_whole_in T) (hr.mono (by decide)) (pa_cons (pv 5) pa_nil)))) pa_nil))) (pss_cons (ps_if (PW.pt (pw_or (pt_not (pt_val (pe_callF (fn_is_between T) (hr.mono (by decide)) (pa_cons (pv 2) (pa_cons pe_int (pa_cons (pv 1) pa_nil)))))) (pw_or (pt_not (pt_val (pe_callF (fn_are_sizes T) hr (pa_cons (pv 6) pa_nil)))) (pw_or1 (pt_cmpR op_gt (pe_op op_sub (pe_op op_add (pv 2) (pe_bi (crK_len K) T.b_len (by decide +kernel) (pa_cons (pv 6) pa_nil))) pe_int) (pv 1) (nomark _)))))) (pss_one (ps_ret pe_non)) pss_nil) (pss_cons (ps_if (PW.pt (pw_or (pt_not (pt_val (pe_callF (fn_is_between T) (hr.mono (by decide)) (pa_cons (pv 3) (pa_cons pe_int (pa_cons (pe_gint T.c_MOST_LEAST) pa_nil)))))) (pw_or1 (pt_not (pt_val (pe_callF (fn_is_between T) (hr.mono (by decide)) (pa_cons (pv 4) (pa_cons (pv 3) (pa_cons (pe_op op_add (pv 3) (pe_gint T.c_MOST_MORE)) pa_nil))))))))) (pss_one (ps_ret pe_non)) pss_nil) (pss_one (ps_ret (pe_makeF (fn_ClassRow_init T) (hr.mono (by decide)) (pa_cons (pe_ix (ixK_list K) (pv 0) pe_int (fun _ _ => rfl)) (pa_cons (pv 2) (pa_cons (pe_tup (pa_cons (pv 3) (pa_cons (pv 4) pa_nil))) (pa_cons (pv 6) pa_nil)))))))))))), ?_⟩
  rintro _ _ ⟨r, last, c0, c1, rfl, rfl⟩
  obtain ⟨hr0, hl4⟩ := c0
  have b1 := hr0.f0
  have b2 := hr0.l0
  have b3 := hr0.l9
  have b4 := hr0.m0
  have b5 := hr0.m3
  have b6 := hr0.sl
  have b7 := hr0.s1
  have b8 := c1.2.1
  have hlen : (rowWords r).length = 5 + r.sizes.length := by simp [rowWords]; omega
  refine sd_ifR (td_or (td_test (ed_lt (ed_cb (eda_cons ed_var eda_nil) cd_lenL) ed_c)) fun _ => (td_not (td_B (ed_call (eda_cons (ed_ixL (K := K) ed_var ed_c (atI_in (by decide) rfl)) eda_nil) ⟨_, hr0.nm, rfl, rfl⟩)))) (fun hb => ?_) (fun _ => ?_)
  · rw [List.length_map, hlen, decide_eq_false (by omega)] at hb
    exact absurd hb (by decide)
  refine sd_seq (sd_asg (ed_is (ed_lc0 (K := K) [r.first.toNat, r.least.toNat, r.most.toNat] (fun n => dS (numS n)) (fun n => dI (n : Int)) (wd_is (wd_list (ed_slL ed_var (edo_some ed_c) (edo_some ed_c))) (cut_words r)) (by simp) (by decide) (fun _ _ => imm_V _) fun n hn => ⟨_, gd_name, (ed_call (eda_cons ed_var eda_nil) ⟨_, by
    simp only [List.mem_cons, List.not_mem_nil, or_false] at hn
    rcases hn with rfl | rfl | rfl <;> omega, rfl, rfl⟩)⟩) (x' := dLst K [dI r.first, dI r.least, dI r.most]) (by
    show dLst K [dI ((r.first.toNat : Nat) : Int), dI ((r.least.toNat : Nat) : Int), dI ((r.most.toNat : Nat) : Int)] = _
    rw [show ((r.first.toNat : Nat) : Int) = r.first by omega, show ((r.least.toNat : Nat) : Int) = r.least by omega, show ((r.most.toNat : Nat) : Int) = r.most by omega])) (gd_unl (gds_cons gd_name (gds_cons gd_name (gds_cons gd_name gds_nil))))) ?_
  refine sd_seq (sd_set (ed_is (ed_cb (eda_cons (ed_lc0 (K := K) r.sizes (fun n => dS (numS n.toNat)) (fun n => dI n) (wd_is (wd_list (ed_slL ed_var (edo_some ed_c) edo_none)) (cut_words2 r)) (by omega) (by decide) (fun _ _ => imm_V _) fun n hn => ⟨_, gd_name, (ed_is (ed_call (eda_cons ed_var eda_nil) ⟨n.toNat, by have := c1.2.2.1 n hn; omega, rfl, rfl⟩) (by have := c1.2.2.1 n hn; rw [show ((n.toNat : Nat) : Int) = n by omega]))⟩) eda_nil) cd_tupL) (x' := tupI K r.sizes) rfl)) ?_
  refine sd_ifR (td_or (td_not (td_B (ed_call (eda_cons ed_var (eda_cons ed_c (eda_cons ed_var eda_nil))) ⟨_, _, _, rfl, rfl⟩))) fun _ => (td_or (td_not (td_B (ed_call (eda_cons ed_var eda_nil) ⟨_, c1, rfl, rfl⟩))) fun _ => (td_test (ed_gt (ed_sub (ed_add ed_var (ed_cb (eda_cons ed_var eda_nil) cd_lenT)) ed_c) ed_var)))) (fun hb => ?_) (fun _ => ?_)
  · rw [List.length_map, decide_eq_true b1, decide_eq_true (show r.first ≤ last by omega), decide_eq_false (by omega)] at hb
    exact absurd hb (by decide)
  refine sd_ifR (td_or (td_not (td_B (ed_call (eda_cons ed_var (eda_cons ed_c (eda_cons ed_c eda_nil))) ⟨_, _, _, rfl, rfl⟩))) fun _ => (td_not (td_B (ed_call (eda_cons ed_var (eda_cons ed_var (eda_cons (ed_add ed_var ed_c) eda_nil))) ⟨_, _, _, rfl, rfl⟩)))) (fun hb => ?_) (fun _ => sd_ret ?_)
  · rw [decide_eq_true b2, decide_eq_true b3, decide_eq_true b4, decide_eq_true b5] at hb
    exact absurd hb (by decide)
  exact ed_row (ed_ixL (K := K) ed_var ed_c (atI_in (by decide) rfl)) ed_var (ed_tup (eda_cons ed_var (eda_cons ed_var eda_nil)) (by simp)) ed_var

end
end Sl
/-! Sl17: match over texts; a region of the heap that changes, all else stated at the heap without it. -/
namespace Sl
open PySem PySem.Spec PyProof.Rows L2 StX RZ
open Evl (Ex ex_l ex_t ex_rd sq_of st_of sz_of sz_lt fresh_back)
/-! ### match words: case "..": -/
structure MC (X : Cx) (cases : List MatchCase) (t : V → TS) : Prop where
  run : ∀ (first : Bool) (pins : List (Addr × Obj)) (s : Shared) (σ : L2.St) (H : Hp) (D : Ends) (v : V) (u : Value), Inv X pins σ H s → RelV v u → t v D σ H → wpAny (model X.prog X.w) X.A (matchCases cases X.env u first) (SP X pins D) X.xe s
def tMc (lit : Str) (t1 : TS) (t2 : V → TS) : V → TS := fun v D σ H => ∃ x : Str, v = .str x ∧ (x = lit → t1 D σ H) ∧ (x ≠ lit → t2 v D σ H)
def tMt (te : TE) (t : V → TS) : TS := fun D σ H => te σ H fun v H1 => t v D σ H1
section
variable {X : Cx} {e : Expr} {te : TE} {t1 : TS} {t2 : V → TS} {body : List Stmt} {rest : List MatchCase} {lit : Str} {j : Nat} {p p2 pos : Pos}
theorem mc_nil : MC X [] fun _ => tNext := ⟨fun first pins s σ H D v u I r h => wpAny_matchCases_nil ⟨σ, H, I, h⟩⟩
theorem mc_cons (h1 : PSs X body t1) (h2 : MC X rest t2) : MC X (⟨.MatchValue (.Constant (.str lit) j p) p2, none, body⟩ :: rest) (tMc lit t1 t2) := by
  refine ⟨fun first pins s σ H D v u I r h => ?_⟩
  obtain ⟨x, rfl, ha, hb⟩ := h
  refine wpAny_matchCases_cons (wpAny_matchPattern_Value ?_)
  refine thn ((pe_str (X := X) (x := lit) (j := j) (pos := p)).run pins s σ H (fun w H' => w = .str lit ∧ H' = H) I ⟨rfl, rfl⟩) fun uv s1 ⟨w, H1, I1, rw', q⟩ => ?_
  obtain ⟨rfl, rfl⟩ := q
  refine thn (op_eq (X := X) pins s1 σ H1 (.str x) (.str lit) u uv (fun w H' => w = .bl (decide (V.str x = V.str lit)) ∧ H' = H1) I1 r rw' ⟨rfl, rfl, rfl⟩) fun cv s2 ⟨w, H2, I2, rw2, q⟩ => ?_
  obtain ⟨rfl, rfl⟩ := q
  cases (show cv = Value.bool _ from rw2)
  refine wpAny_truthy_bool ?_
  by_cases hx : x = lit
  · rw [if_pos (by rw [hx]; simp)]
    exact wpAny_assignInOrder_none (h1.run pins s2 σ H2 D I2 (ha hx))
  · rw [if_neg (by simpa using hx)]
    exact h2.run false pins s2 σ H2 D _ _ I2 r (hb hx)
theorem ps_match (he : PE X e te) (hm : MC X rest t2) : PS X (.Match e rest pos) (tMt te t2) := ⟨fun pins s σ H D I h => wpAny_Match (thn (he.run pins s σ H _ I h) fun u s1 ⟨v, H1, I1, r, q⟩ => hm.run true pins s1 σ H1 D v u I1 r q)⟩
end
/-! ### a region that changes -/
def hideL (as : List Addr) (H : Hp) : Hp := fun b => if b ∈ as then none else H b
theorem hideL_ex {as : List Addr} {H : Hp} : Ex (hideL as H) H := fun b o h => by
  unfold hideL at h
  split at h
  · cases h
  · exact h
theorem hideL_mono {as : List Addr} {H H' : Hp} (e : Ex H H') : Ex (hideL as H) (hideL as H') := fun b o h => by
  unfold hideL at h ⊢
  split at h
  · cases h
  · rename_i hb
    rw [if_neg hb]
    exact e b o h
theorem hideL_sub {as bs : List Addr} {H : Hp} (h : ∀ a ∈ as, a ∈ bs) : Ex (hideL bs H) (hideL as H) := fun b o e => by
  unfold hideL at e ⊢
  split at e
  · cases e
  · rename_i hb
    rw [if_neg fun z => hb (h b z)]
    exact e
theorem hideL_upd {as : List Addr} {H : Hp} {p : Addr} {o : HO} (h : p ∈ as) : hideL as (upd H p o) = hideL as H := by
  funext b
  unfold hideL
  split
  · rfl
  · rename_i hb
    exact upd_ne fun e => hb (e ▸ h)
theorem hideL_at {as : List Addr} {H : Hp} {b : Addr} (h : b ∉ as) : hideL as H b = H b := if_neg h
theorem hideL_in {as : List Addr} {H : Hp} {b : Addr} (h : b ∈ as) : hideL as H b = none := if_pos h
/-- what the region's objects are, at a heap -/
structure Rg where
  as : List Addr
  J : Hp → Prop
  mono : ∀ {H H' : Hp}, Ex H H' → J H → J H'
  live : ∀ {H : Hp}, J H → ∀ a ∈ as, H a ≠ none
def Rg.Ok (r : Rg) (H : Hp) (ρ : Rho) (σ : L2.St) : Prop := r.J H ∧ EnvOk (hideL r.as H) ρ σ
/-- the region r stands; r' (of the same addresses) behind it -/
def Em (r r' : Rg) (te : TE) (ρ : Rho) (d : Dt) : Prop := ∀ H σ, r.Ok H ρ σ → ∀ Q : VK, (∀ v H', r'.J H' → Ex (hideL r.as H) (hideL r.as H') → d.P (hideL r.as H') v → Q v H') → te σ H Q
def Tm (r r' : Rg) (t : TT) (ρ : Rho) (b : Bool) : Prop := ∀ H σ, r.Ok H ρ σ → ∀ Q : Bool → Hp → Prop, (∀ H', r'.J H' → Ex (hideL r.as H) (hideL r.as H') → Q b H') → t σ H Q
def EmA (r r' : Rg) (ta : TA) (ρ : Rho) (ds : List Dt) : Prop := ∀ H σ, r.Ok H ρ σ → ∀ Q : List V → Hp → Prop, (∀ vs H', r'.J H' → Ex (hideL r.as H) (hideL r.as H') → All2 (hideL r.as H') ds vs → Q vs H') → ta σ H Q
inductive OutM where
  | ret (r : Rg) (d : Dt) | nx (r : Rg) (ρ : Rho)
def OutM.ok (as : List Addr) : OutM → Hp → Ends → Prop
  | .ret r d, H, D => ∀ v H', r.J H' → Ex (hideL as H) (hideL as H') → d.P (hideL as H') v → D.rt v H'
  | .nx r ρ, H, D => ∀ σ' H', r.J H' → Ex (hideL as H) (hideL as H') → EnvOk (hideL as H') ρ σ' → D.nx σ' H'
theorem OutM.ok.mono {as : List Addr} {o : OutM} {H H1 : Hp} {D : Ends} (e : Ex (hideL as H) (hideL as H1)) (h : o.ok as H D) : o.ok as H1 D := by
  cases o with
  | ret r d => exact fun v H' j e' => h v H' j (e.trans e')
  | nx r ρ => exact fun v H' j e' => h v H' j (e.trans e')
def Sm (r : Rg) (t : TS) (ρ : Rho) (o : OutM) : Prop := ∀ H σ D, r.Ok H ρ σ → o.ok r.as H D → t D σ H
/-- data that stand apart from the region -/
def HidR (r : Rg) (d : Dt) : Prop := ∀ H v, r.J H → d.P H v → d.P (hideL r.as H) v
section
variable {K : PySem.W.Frag} {r r' r1 r2 : Rg} {ρ ρ' ρ1 : Rho} {ta tb te : TE} {t u : TT} {s1 s2 : TS} {x y d : Dt} {a b : Bool} {o : OutM}
/-- what is read without a change; ρ': with what the region tells -/
theorem em_of (h : Ed te ρ' d) (hr : ∀ H σ, r.Ok H ρ σ → EnvOk H ρ' σ) (hd : HidR r d) : Em r r te ρ d := fun H σ e Q q => h H σ (hr H σ e) _ fun v H1 e1 p => q v H1 (r.mono e1 e.1) (hideL_mono e1) (hd H1 v (r.mono e1 e.1) p)
theorem tm_of (h : Td t ρ' a) (hr : ∀ H σ, r.Ok H ρ σ → EnvOk H ρ' σ) : Tm r r t ρ a := fun H σ e Q q => h H σ (hr H σ e) _ fun H1 e1 => q H1 (r.mono e1 e.1) (hideL_mono e1)
theorem rg_same (H : Hp) (σ : L2.St) (e : r.Ok H ρ σ) : EnvOk H ρ σ := e.2.mono hideL_ex
theorem em_e (h : Ed te ρ d) (hd : HidR r d) : Em r r te ρ d := em_of h rg_same hd
theorem tm_e (h : Td t ρ a) : Tm r r t ρ a := tm_of h rg_same
theorem em_var {i : Nat} (h : ρ[i]? = some (some d) := by rfl) : Em r r (tVar i) ρ d := fun H σ e Q q => by
  obtain ⟨v, a, p⟩ := e.2.get h
  exact ⟨v, a, q v H e.1 (Ex.refl _) p⟩
theorem Rg.Ok.next {r r' : Rg} {H H' : Hp} {ρ : Rho} {σ : L2.St} (as : r'.as = r.as) (h : r.Ok H ρ σ) (j : r'.J H') (e : Ex (hideL r.as H) (hideL r.as H')) : r'.Ok H' ρ σ := ⟨j, by rw [as]; exact h.2.mono e⟩
theorem ema_nil : EmA r r tNil ρ [] := fun H σ e Q q => q [] H e.1 (Ex.refl _) True.intro
theorem ema_cons {tr : TA} {ds : List Dt} (as : r1.as = r.as) (h : Em r r1 ta ρ x) (hr : EmA r1 r' tr ρ ds) : EmA r r' (tCons ta tr) ρ (x :: ds) := fun H σ e Q q =>
  h H σ e _ fun v H1 j1 e1 p1 => hr H1 σ (e.next as j1 e1) _ fun vs H2 j2 e2 p2 => by
    rw [as] at e2 p2
    exact q (v :: vs) H2 j2 (e1.trans e2) ⟨x.mono e2 p1, p2⟩
theorem sm_set {i : Nat} (as : r'.as = r.as) (h : Em r r' te ρ d) : Sm r (tAsg te (gName i)) ρ (.nx r' (ρ.set i (some d))) := fun H σ D e k => h H σ e _ fun v H1 j1 e1 p => k _ H1 j1 e1 ((e.2.mono e1).set p i)
theorem sm_ret (h : Em r r' te ρ d) : Sm r (tRet te) ρ (.ret r' d) := fun H σ D e k => h H σ e _ k
theorem sm_next : Sm r tNext ρ (.nx r ρ) := fun H σ D e k => k σ H e.1 (Ex.refl _) e.2
theorem sm_seq (as : r1.as = r.as) (h1 : Sm r s1 ρ (.nx r1 ρ1)) (h2 : Sm r1 s2 ρ1 o) : Sm r (tSeq s1 s2) ρ o := fun H σ D e k => h1 H σ { D with nx := s2 D } e fun σ' H' j e' en => h2 H' σ' D ⟨j, by rw [as]; exact en⟩ (by rw [as]; exact k.mono e')
theorem sm_if (as : r1.as = r.as) (h : Tm r r1 t ρ a) (h1 : a = true → Sm r1 s1 ρ o) (h2 : a = false → Sm r1 s2 ρ o) : Sm r (tIfS t s1 s2) ρ o := fun H σ D e k => h H σ e _ fun H1 j1 e1 => by
  have k1 : o.ok r1.as H1 D := by rw [as]; exact k.mono e1
  cases a with
  | true => exact h1 rfl H1 σ D (e.next as j1 e1) k1
  | false => exact h2 rfl H1 σ D (e.next as j1 e1) k1
theorem sm_ifR (as : r1.as = r.as) (h : Tm r r1 t ρ a) (h1 : a = true → Sm r1 s1 ρ (.ret r' d)) (h2 : a = false → Sm r1 s2 ρ (.ret r' d)) : Sm r (tSeq (tIfS t s1 tNext) s2) ρ (.ret r' d) := fun H σ D e k => h H σ e _ fun H1 j1 e1 => by
  have k1 : (OutM.ret r' d).ok r1.as H1 D := by rw [as]; exact k.mono e1
  cases a with
  | true => exact h1 rfl H1 σ { D with nx := s2 D } (e.next as j1 e1) k1
  | false => exact h2 rfl H1 σ D (e.next as j1 e1) k1
theorem sm_drop (as : r'.as = r.as) (h : Em r r' te ρ d) : Sm r (tDrop te) ρ (.nx r' ρ) := fun H σ D e k => h H σ e _ fun v H1 j1 e1 _ => k σ H1 j1 e1 (e.2.mono e1)
theorem sm_wk (as : r'.as = r.as) (h : Sm r s1 ρ (.nx r' ρ1)) (w : Wk ρ1 ρ') : Sm r s1 ρ (.nx r' ρ') := fun H σ D e k => h H σ D e fun σ' H' j e' en => k σ' H' j e' (w.ok en)
/-- a call that changes the region alone -/
def spM (R : List Dt → Rg → Rg → Dt → Prop) : Sp := fun vs H Q _ => ∃ ds r r' d, R ds r r' d ∧ r.J H ∧ All2 (hideL r.as H) ds vs ∧ ∀ v H', r'.J H' → Ex (hideL r.as H) (hideL r.as H') → d.P (hideL r.as H') v → Q v H'
theorem em_call {R : List Dt → Rg → Rg → Dt → Prop} {E : XK} {tt : TA} {ds : List Dt} (as : r1.as = r.as) (h : EmA r r1 tt ρ ds) (hr : R ds r1 r' d) : Em r r' (tCall (spM R) [] E tt) ρ d := fun H σ e Q q =>
  h H σ e _ fun vs H1 j1 e1 p1 => ⟨ds, r1, r', d, hr, j1, by rw [List.append_nil, as]; exact p1, fun v H2 j2 e2 p2 => by
    rw [as] at e2 p2
    exact q v H2 j2 (e1.trans e2) p2⟩
/-- a fresh list -/
theorem em_lst {tt : TA} {ds : List Dt} (as : r'.as = r.as) (h : EmA r r' tt ρ ds) (hl : ds.length ≤ 100000) : Em r r' (tLst tt) ρ (dLst K ds) := fun H σ e Q q =>
  h H σ e _ fun vs H1 j1 e1 p1 => ⟨sz_of (by rw [← p1.len]; exact hl), fun p hp => by
    have hn : p ∉ r.as := fun hm => r'.live j1 p (by rw [as]; exact hm) hp
    have e2 : Ex (hideL r.as H1) (hideL r.as (upd H1 p (.lst vs))) := hideL_mono (Ex.new hp)
    exact q _ _ (r'.mono (Ex.new hp) j1) (e1.trans e2) ⟨p, vs, rfl, by rw [hideL_at hn]; exact upd_same, p1.mono e2⟩⟩
theorem hidr_V {x : V} : HidR r (dV x) := fun _ _ _ h => h
end
end Sl
namespace Sl
open PySem PySem.Spec PyProof.Rows L2 StX RZ
open Evl (Ex ex_l ex_t ex_rd sq_of st_of sz_of sz_lt fresh_back)
local macro_rules | `(tactic| walk_at "sd") => `(tactic| first | assumption | omega | decide | (constructor <;> assumption) | (constructor <;> omega))
section
variable {P : Program} {w : World} {K : PySem.W.Frag} {mg : Str → Option Value} {base : Heap}

/-! ### a Reader: the instance and its three lists -/
structure SoftO (o : HO) : Prop where
  nt : ∀ xs, o ≠ .tup xs
  nf : ∀ x u, o ≠ .frz x u
  nr : ∀ C dx fs, o = .ins C dx fs → fs.lookup ("own_first" : Str) = none
def HidL (d : Dt) : Prop := ∀ (H : Hp) (as : List Addr) (v : V), (∀ a ∈ as, ∃ o, H a = some o ∧ SoftO o) → d.P H v → d.P (hideL as H) v
theorem hidL_V {x : V} : HidL (dV x) := fun _ _ _ _ h => h
theorem hidL_sqT {H : Hp} {as : List Addr} {b : Addr} {xs : List V} (w : ∀ a ∈ as, ∃ o, H a = some o ∧ SoftO o) (q : SqT K H b xs) : SqT K (hideL as H) b xs := by
  rcases q with (q | ⟨u, q⟩) | q
  · have : b ∉ as := fun e => by
      obtain ⟨o, h1, h2⟩ := w b e
      rw [h1] at q
      exact h2.nt _ (Option.some.inj q)
    exact .inl (.inl (by rw [hideL_at this]; exact q))
  · have : b ∉ as := fun e => by
      obtain ⟨o, h1, h2⟩ := w b e
      rw [h1] at q
      exact h2.nf _ _ (Option.some.inj q)
    exact .inl (.inr ⟨u, by rw [hideL_at this]; exact q⟩)
  · exact .inr q
theorem All2.hidL {H : Hp} {as : List Addr} (w : ∀ a ∈ as, ∃ o, H a = some o ∧ SoftO o) : ∀ {ds : List Dt} {vs : List V}, (∀ d ∈ ds, HidL d) → All2 H ds vs → All2 (hideL as H) ds vs
  | [], [], _, _ => True.intro
  | d :: ds, _ :: _, i, q => ⟨i d List.mem_cons_self _ _ _ w q.1, All2.hidL w (fun x hx => i x (List.mem_cons_of_mem _ hx)) q.2⟩
  | [], _ :: _, _, q => q.elim
  | _ :: _, [], _, q => q.elim
theorem hidL_tup {ds : List Dt} (hd : ∀ d ∈ ds, HidL d) : HidL (dTup K ds) := fun H as v w ⟨p, vs, e, b, c⟩ => ⟨p, vs, e, hidL_sqT w b, c.hidL w hd⟩
theorem hidL_nTupI {ns : List Int} : HidL (nTupI ns) := fun H as v w ⟨p, vs, e, b, c⟩ => by
  have : p ∉ as := fun z => by
    obtain ⟨o, h1, h2⟩ := w p z
    rw [h1] at b
    exact h2.nt _ (Option.some.inj b)
  exact ⟨p, vs, e, by rw [hideL_at this]; exact b, c.hidL w fun d hd => by
    obtain ⟨m, _, rfl⟩ := List.mem_map.mp hd
    exact hidL_V⟩
theorem hidL_tupI {ns : List Int} : HidL (tupI K ns) := hidL_tup fun d hd => by
  obtain ⟨m, _, rfl⟩ := List.mem_map.mp hd
  exact hidL_V
theorem hidL_row {c : Row} : HidL (dRow K c) := fun H as v w ⟨b, dx, l, s, e, h1, h2, h3⟩ => by
  have : b ∉ as := fun z => by
    obtain ⟨o, g1, g2⟩ := w b z
    rw [g1] at h1
    have z1 := g2.nr _ _ _ (Option.some.inj h1)
    have z2 : (rowF c l s).lookup ("own_first" : Str) = some (.int c.first) := by kernel_rfl
    rw [z2] at z1
    cases z1
  exact ⟨b, dx, l, s, e, by rw [hideL_at this]; exact h1, hidL_sqT w h2, hidL_sqT w h3⟩
structure RSt where
  sort : Str
  last : Int
  rows : List Row
  bes : List (Int × Int)
  far : List ((Int × Int) × Int)
structure RdA where
  p : Addr
  lr : Addr
  lb : Addr
  lf : Addr
  n1 : p ≠ lr
  n2 : p ≠ lb
  n3 : p ≠ lf
  n4 : lr ≠ lb
  n5 : lr ≠ lf
  n6 : lb ≠ lf
def RdA.as (a : RdA) : List Addr := [a.p, a.lr, a.lb, a.lf]
def rdrF (a : RdA) (st : RSt) : List (Str × V) := [("own_sort", .str st.sort), ("own_last", .int st.last), ("own_rows", .ref a.lr), ("own_beside", .ref a.lb), ("own_far", .ref a.lf)]
def bpD (K : PySem.W.Frag) (p : Int × Int) : Dt := tupI K (pairI p)
structure RdJ (K : PySem.W.Frag) (a : RdA) (st : RSt) (H : Hp) (dx : Addr) (vr vb vf : List V) : Prop where
  ip : H a.p = some (.ins (He.ga K "Reader") dx (rdrF a st))
  ir : H a.lr = some (.lst vr)
  ib : H a.lb = some (.lst vb)
  if_ : H a.lf = some (.lst vf)
  ar : All2 (hideL a.as H) (st.rows.map (dRow K)) vr
  ab : All2 (hideL a.as H) (st.bes.map (bpD K)) vb
  af : All2 (hideL a.as H) (st.far.map (farT K)) vf
theorem RdJ.mono {a : RdA} {st : RSt} {H H' : Hp} {dx : Addr} {vr vb vf : List V} (e : Ex H H') (j : RdJ K a st H dx vr vb vf) : RdJ K a st H' dx vr vb vf := ⟨e _ _ j.ip, e _ _ j.ir, e _ _ j.ib, e _ _ j.if_, j.ar.mono (hideL_mono e), j.ab.mono (hideL_mono e), j.af.mono (hideL_mono e)⟩
def rdR (K : PySem.W.Frag) (a : RdA) (st : RSt) : Rg where
  as := a.as
  J := fun H => ∃ dx vr vb vf, RdJ K a st H dx vr vb vf
  mono := fun e ⟨dx, vr, vb, vf, j⟩ => ⟨dx, vr, vb, vf, j.mono e⟩
  live := fun ⟨dx, vr, vb, vf, j⟩ b hb => by
    simp only [RdA.as, List.mem_cons, List.not_mem_nil, or_false] at hb
    rcases hb with rfl | rfl | rfl | rfl
    · rw [j.ip]; exact fun h => by cases h
    · rw [j.ir]; exact fun h => by cases h
    · rw [j.ib]; exact fun h => by cases h
    · rw [j.if_]; exact fun h => by cases h
def dRdr (K : PySem.W.Frag) (a : RdA) (st : RSt) : Dt := ⟨fun H v => v = .ref a.p ∧ (rdR K a st).J H, fun e ⟨h1, h2⟩ => ⟨h1, (rdR K a st).mono e h2⟩⟩
section
variable {a : RdA} {st st' : RSt} {ρ : Rho} {te : TE} {d : Dt}
theorem rd_soft {H : Hp} (h : (rdR K a st).J H) : ∀ b ∈ a.as, ∃ o, H b = some o ∧ SoftO o := fun b hb => by
  obtain ⟨dx, vr, vb, vf, j⟩ := h
  simp only [RdA.as, List.mem_cons, List.not_mem_nil, or_false] at hb
  have hl : ∀ xs : List V, SoftO (.lst xs) := fun xs => ⟨(fun _ e => nomatch e), (fun _ _ e => nomatch e), (fun _ _ _ e => nomatch e)⟩
  rcases hb with rfl | rfl | rfl | rfl
  · refine ⟨_, j.ip, (fun _ e => nomatch e), (fun _ _ e => nomatch e), fun C dx' fs e => ?_⟩
    cases e
    kernel_rfl
  · exact ⟨_, j.ir, hl _⟩
  · exact ⟨_, j.ib, hl _⟩
  · exact ⟨_, j.if_, hl _⟩
theorem hidR_rd (h : HidL d) : HidR (rdR K a st) d := fun H v j p => h H a.as v (rd_soft j) p
theorem rd_env {ρ' : Rho} : ∀ H σ, (rdR K a st).Ok H (some (dV (.ref a.p)) :: ρ') σ → EnvOk H (some (dRdr K a st) :: ρ') σ := fun H σ e => by
  obtain ⟨j, e2⟩ := e
  have e3 := e2.mono hideL_ex
  cases σ with
  | nil => exact e3.elim
  | cons o σ =>
    refine ⟨fun d hd => ?_, e3.2⟩
    cases hd
    obtain ⟨v, h1, h2⟩ := e3.1 _ rfl
    exact ⟨v, h1, h2, j⟩
theorem fd_Reader_own_sort {w : World} {mg : Str → Option Value} (T : Tx w K mg) : FD K (dRdr K a st) "own_sort" (dS st.sort) := fun H v ⟨h1, dx, vr, vb, vf, j⟩ => ⟨_, _, dx, _, .str st.sort, h1, j.ip, T.cl_Reader, T.na_Reader_own_sort, by kernel_rfl, rfl⟩
theorem fd_Reader_own_last {w : World} {mg : Str → Option Value} (T : Tx w K mg) : FD K (dRdr K a st) "own_last" (dI st.last) := fun H v ⟨h1, dx, vr, vb, vf, j⟩ => ⟨_, _, dx, _, .int st.last, h1, j.ip, T.cl_Reader, T.na_Reader_own_last, by kernel_rfl, rfl⟩
theorem fd_Reader_own_rows {w : World} {mg : Str → Option Value} (T : Tx w K mg) : FD K (dRdr K a st) "own_rows" (dLst K (st.rows.map (dRow K))) := fun H v ⟨h1, dx, vr, vb, vf, j⟩ => ⟨_, _, dx, _, .ref a.lr, h1, j.ip, T.cl_Reader, T.na_Reader_own_rows, by kernel_rfl, _, _, rfl, j.ir, j.ar.mono hideL_ex⟩
theorem fd_Reader_own_beside {w : World} {mg : Str → Option Value} (T : Tx w K mg) : FD K (dRdr K a st) "own_beside" (dLst K (st.bes.map (bpD K))) := fun H v ⟨h1, dx, vr, vb, vf, j⟩ => ⟨_, _, dx, _, .ref a.lb, h1, j.ip, T.cl_Reader, T.na_Reader_own_beside, by kernel_rfl, _, _, rfl, j.ib, j.ab.mono hideL_ex⟩
theorem fd_Reader_own_far {w : World} {mg : Str → Option Value} (T : Tx w K mg) : FD K (dRdr K a st) "own_far" (dLst K (st.far.map (farT K))) := fun H v ⟨h1, dx, vr, vb, vf, j⟩ => ⟨_, _, dx, _, .ref a.lf, h1, j.ip, T.cl_Reader, T.na_Reader_own_far, by kernel_rfl, _, _, rfl, j.if_, j.af.mono hideL_ex⟩
theorem md_Reader {m : Str} (h : (rdrF a st).lookup m = none := by kernel_rfl) : MD (He.ga K "Reader") m (dRdr K a st) := fun H v ⟨h1, dx, vr, vb, vf, j⟩ => ⟨_, dx, _, h1, j.ip, h⟩
/-- self.f.append(e) -/
theorem sm_app {r r' : Rg} {f : Str} {l : Addr} (hf : ∀ H σ, r.Ok H ρ σ → ∃ b C dx fs, σ[0]? = some (some (.ref b)) ∧ H b = some (.ins C dx fs) ∧ Cls K C ∧ NoAttr K C f ∧ fs.lookup f = some (.ref l)) (hte : Em r r te ρ d) (hm : l ∈ r.as)
    (hl : ∀ H, r.J H → ∃ vs, H l = some (.lst vs) ∧ vs.length < 1000 ∧ ∀ v, d.P (hideL r.as H) v → r'.J (upd H l (.lst (vs ++ [v])))) : Sm r (tDrop (tBM K "list" rAppend (tFld K (tVar 0) f) (tCons te tNil))) ρ (.nx r' ρ) := fun H σ D e k => by
  obtain ⟨b, C, dx, fs, h1, h2, h3, h4, h5⟩ := hf H σ e
  obtain ⟨vs0, g1, _, _⟩ := hl H e.1
  refine ⟨.ref b, h1, b, C, dx, fs, .ref l, rfl, h2, h3, h4, h5, .inl ⟨rfl, vs0, sq_of g1⟩, hte H σ e _ fun v H1 j1 e1 p1 => ?_⟩
  obtain ⟨vs, g1, g2, g3⟩ := hl H1 j1
  exact ⟨l, vs, v, rfl, rfl, g1, sz_lt (by omega), k σ _ (g3 v p1) (by rw [hideL_upd hm]; exact e1) (by rw [hideL_upd hm]; exact e.2.mono e1)⟩
/-- self.f = e -/
theorem sm_fld {r r' : Rg} {f : Str} {b : Addr} (hf : ∀ H, r.J H → ∃ C dx fs, H b = some (.ins C dx fs) ∧ Cls K C ∧ NoAttr K C f ∧ fs.length < 1000 ∧ ∀ v, d.P (hideL r.as H) v → r'.J (upd H b (.ins C dx (putF f v fs)))) (hb : ∀ H σ, r.Ok H ρ σ → σ[0]? = some (some (.ref b))) (hte : Em r r te ρ d) (hm : b ∈ r.as) :
    Sm r (sFld K (tVar 0) te f) ρ (.nx r' ρ) := fun H σ D e k => hte H σ e _ fun v H1 j1 e1 p1 => by
  obtain ⟨C, dx, fs, h2, h3, h4, h5, h6⟩ := hf H1 j1
  exact ⟨.ref b, hb H σ e, b, C, dx, fs, rfl, h2, h3, h4, h5, k σ _ (h6 v p1) (by rw [hideL_upd hm]; exact e1) (by rw [hideL_upd hm]; exact e.2.mono e1)⟩
theorem ok_var0 {r : Rg} {b : Addr} {ρ' : Rho} : ∀ H σ, r.Ok H (some (dV (.ref b)) :: ρ') σ → σ[0]? = some (some (.ref b)) := fun H σ e => by
  obtain ⟨v, h1, h2⟩ := e.2.get (i := 0) (d := dV (.ref b)) rfl
  have h2' : v = .ref b := h2
  rw [h1, h2']
theorem rd_app_rows {c : Row} (hz : st.rows.length < 100) : ∀ H, (rdR K a st).J H → ∃ vs, H a.lr = some (.lst vs) ∧ vs.length < 1000 ∧ ∀ v, (dRow K c).P (hideL (rdR K a st).as H) v → (rdR K a { st with rows := st.rows ++ [c] }).J (upd H a.lr (.lst (vs ++ [v]))) := fun H ⟨dx, vr, vb, vf, j⟩ => by
  have hl := j.ar.len
  rw [List.length_map] at hl
  refine ⟨vr, j.ir, by omega, fun v p => ⟨dx, vr ++ [v], vb, vf, ?_⟩⟩
  have hh : hideL a.as (upd H a.lr (.lst (vr ++ [v]))) = hideL a.as H := hideL_upd (by simp [RdA.as])
  exact ⟨by rw [upd_ne a.n1]; exact j.ip, upd_same, by rw [upd_ne a.n4.symm]; exact j.ib, by rw [upd_ne a.n5.symm]; exact j.if_, by
    rw [hh, List.map_append]
    exact j.ar.app ⟨p, True.intro⟩, by rw [hh]; exact j.ab, by rw [hh]; exact j.af⟩
theorem rd_app_bes {q : Int × Int} (hz : st.bes.length < 100) : ∀ H, (rdR K a st).J H → ∃ vs, H a.lb = some (.lst vs) ∧ vs.length < 1000 ∧ ∀ v, (bpD K q).P (hideL (rdR K a st).as H) v → (rdR K a { st with bes := st.bes ++ [q] }).J (upd H a.lb (.lst (vs ++ [v]))) := fun H ⟨dx, vr, vb, vf, j⟩ => by
  have hl := j.ab.len
  rw [List.length_map] at hl
  refine ⟨vb, j.ib, by omega, fun v p => ⟨dx, vr, vb ++ [v], vf, ?_⟩⟩
  have hh : hideL a.as (upd H a.lb (.lst (vb ++ [v]))) = hideL a.as H := hideL_upd (by simp [RdA.as])
  exact ⟨by rw [upd_ne a.n2]; exact j.ip, by rw [upd_ne a.n4]; exact j.ir, upd_same, by rw [upd_ne a.n6.symm]; exact j.if_, by rw [hh]; exact j.ar, by
    rw [hh, List.map_append]
    exact j.ab.app ⟨p, True.intro⟩, by rw [hh]; exact j.af⟩
theorem rd_app_far {q : (Int × Int) × Int} (hz : st.far.length < 100) : ∀ H, (rdR K a st).J H → ∃ vs, H a.lf = some (.lst vs) ∧ vs.length < 1000 ∧ ∀ v, (farT K q).P (hideL (rdR K a st).as H) v → (rdR K a { st with far := st.far ++ [q] }).J (upd H a.lf (.lst (vs ++ [v]))) := fun H ⟨dx, vr, vb, vf, j⟩ => by
  have hl := j.af.len
  rw [List.length_map] at hl
  refine ⟨vf, j.if_, by omega, fun v p => ⟨dx, vr, vb, vf ++ [v], ?_⟩⟩
  have hh : hideL a.as (upd H a.lf (.lst (vf ++ [v]))) = hideL a.as H := hideL_upd (by simp [RdA.as])
  exact ⟨by rw [upd_ne a.n3]; exact j.ip, by rw [upd_ne a.n5]; exact j.ir, by rw [upd_ne a.n6]; exact j.ib, upd_same, by rw [hh]; exact j.ar, by rw [hh]; exact j.ab, by
    rw [hh, List.map_append]
    exact j.af.app ⟨p, True.intro⟩⟩
theorem rd_sort {w : World} {mg : Str → Option Value} (T : Tx w K mg) {s : Str} : ∀ H, (rdR K a st).J H → ∃ C dx fs, H a.p = some (.ins C dx fs) ∧ Cls K C ∧ NoAttr K C "own_sort" ∧ fs.length < 1000 ∧ ∀ v, (dS s).P (hideL (rdR K a st).as H) v → (rdR K a { st with sort := s }).J (upd H a.p (.ins C dx (putF "own_sort" v fs))) := fun H ⟨dx, vr, vb, vf, j⟩ => by
  refine ⟨_, dx, _, j.ip, T.cl_Reader, T.na_Reader_own_sort, by show 5 < 1000; decide, fun v p => ⟨dx, vr, vb, vf, ?_⟩⟩
  have p' : v = .str s := p
  subst p'
  have hh : ∀ o, hideL a.as (upd H a.p o) = hideL a.as H := fun o => hideL_upd (by simp [RdA.as])
  have hf : putF "own_sort" (V.str s) (rdrF a st) = rdrF a { st with sort := s } := by kernel_rfl
  rw [hf]
  exact ⟨upd_same, by rw [upd_ne a.n1.symm]; exact j.ir, by rw [upd_ne a.n2.symm]; exact j.ib, by rw [upd_ne a.n3.symm]; exact j.if_, by rw [hh]; exact j.ar, by rw [hh]; exact j.ab, by rw [hh]; exact j.af⟩
theorem rd_last {w : World} {mg : Str → Option Value} (T : Tx w K mg) {n : Int} : ∀ H, (rdR K a st).J H → ∃ C dx fs, H a.p = some (.ins C dx fs) ∧ Cls K C ∧ NoAttr K C "own_last" ∧ fs.length < 1000 ∧ ∀ v, (dI n).P (hideL (rdR K a st).as H) v → (rdR K a { st with last := n }).J (upd H a.p (.ins C dx (putF "own_last" v fs))) := fun H ⟨dx, vr, vb, vf, j⟩ => by
  refine ⟨_, dx, _, j.ip, T.cl_Reader, T.na_Reader_own_last, by show 5 < 1000; decide, fun v p => ⟨dx, vr, vb, vf, ?_⟩⟩
  have p' : v = .int n := p
  subst p'
  have hh : ∀ o, hideL a.as (upd H a.p o) = hideL a.as H := fun o => hideL_upd (by simp [RdA.as])
  have hf : putF "own_last" (V.int n) (rdrF a st) = rdrF a { st with last := n } := by kernel_rfl
  rw [hf]
  exact ⟨upd_same, by rw [upd_ne a.n1.symm]; exact j.ir, by rw [upd_ne a.n2.symm]; exact j.ib, by rw [upd_ne a.n3.symm]; exact j.if_, by rw [hh]; exact j.ar, by rw [hh]; exact j.ab, by rw [hh]; exact j.af⟩
theorem rd_fld {w : World} {mg : Str → Option Value} {ρ' : Rho} {f : Str} {l : Addr} (T : Tx w K mg) (n : NoAttr K (He.ga K "Reader") f) (h : (rdrF a st).lookup f = some (.ref l)) : ∀ H σ, (rdR K a st).Ok H (some (dV (.ref a.p)) :: ρ') σ → ∃ b C dx fs, σ[0]? = some (some (.ref b)) ∧ H b = some (.ins C dx fs) ∧ Cls K C ∧ NoAttr K C f ∧ fs.lookup f = some (.ref l) := fun H σ e => by
  obtain ⟨dx, vr, vb, vf, j⟩ := e.1
  exact ⟨a.p, _, dx, _, ok_var0 H σ e, j.ip, T.cl_Reader, n, h⟩
end
/-- a def whose promise speaks of a region -/
theorem fn_M {x qual : Str} {params : Arguments} {body : List Stmt} {scope : Scope} {dvs : List V} {kws : List (Str × V)} {f : Addr} {fd : FuncData} {N ps : List Str} {k : Nat} {R : List Dt → Rg → Rg → Dt → Prop}
    (F : FunD K x qual params body scope dvs kws f fd) (S : FnScope N ps scope) (hl : ∀ ds r r' d, R ds r r' d → ds.length = ps.length)
    (hb : ∀ (cdv : Value) (A : Around) (outer : List Env) (s : Shared) (H : Hp) (E : XK), Room k (A.deeper (envOfC qual scope s.heap.objs.size f cdv)) →
      ∃ t, PSs (cxOf CX0 P w K mg base N qual scope f cdv A outer s H E).nox body t ∧ ∀ ds r r' d, R ds r r' d → Sm r t (ds.map some ++ List.replicate (N.length - ds.length) none) (.ret r' d)) : FnOk P w K mg base CX0 (k + 1) f fd ps (spM R) := by
  refine F.ok S (fun vs H Q E ⟨ds, r, r', d, hr, _, h, _⟩ => ?_) (fun cdv A outer s H vs Q E hr ⟨ds, r, r', d, hR, j, h, q⟩ => ?_)
  · rw [← hl ds r r' d hr, h.len]
  · obtain ⟨t, ht, hs⟩ := hb cdv A outer s H E hr
    refine ⟨t, ht.nox, hs ds r r' d hR H _ _ ⟨j, ?_⟩ fun v H' j' e' p' => q v H' j' e' p'⟩
    unfold L2.start
    rw [← h.len]
    exact EnvOk.start h _
def ltP (p q : Int × Int) : Bool := decide (p.1 < q.1 ∨ (p.1 = q.1 ∧ p.2 < q.2))
def leP (p q : Int × Int) : Bool := if p.1 = q.1 then decide (p.2 ≤ q.2) else decide (p.1 ≤ q.1)
theorem leP_not {p q : Int × Int} (h : ltP q p = true) : leP p q = false := by
  unfold ltP at h
  have h' := of_decide_eq_true h
  unfold leP
  split
  · exact decide_eq_false (by omega)
  · exact decide_eq_false (by omega)
theorem ed_leP {ρ : Rho} {ta tb : TE} {p q : Int × Int} (ha : Ed ta ρ (bpD K p)) (hb : Ed tb ρ (bpD K q)) : Ed (tOp (rLeT K) ta tb) ρ (dB (leP p q)) := ed_op ha hb fun H u v ⟨x, us, e1, h1, h2⟩ ⟨y, ws, e2, h3, h4⟩ Q k => by
  have hu := ints_all2 h2
  have hw := ints_all2 h4
  subst hu hw
  refine ⟨x, y, pairI p, pairI q, e1, e2, h1, h3, k _ H (Ex.refl H) ?_⟩
  show V.bl _ = V.bl _
  congr 1
  show Ob.lexAt _ _ _ 0 2 = leP p q
  unfold leP
  rw [show (2 : Nat) = 1 + 1 from rfl, Ob.lexAt_succ]
  by_cases h : p.1 = q.1
  · rw [if_pos h, if_pos (by simpa [pairI] using h), Ob.lexAt_succ]
    by_cases h' : p.2 = q.2
    · rw [if_pos (by simpa [pairI] using h'), Ob.lexAt_zero]
      simp [pairI, h']
    · rw [if_neg (by simpa [pairI] using h')]
      rfl
  · rw [if_neg h, if_neg (by simpa [pairI] using h)]
    rfl
theorem notN_row {c : Row} : NotN (dRow K c) := fun H v ⟨b, dx, l, s, e, _⟩ => by
  rw [e]
  intro z
  cases z
theorem pairPs_depth : ∀ l : List (Int × Int), PyData.depthAll (l.map pairP) ≤ 1
  | [] => by simp [PyData.depthAll]
  | p :: l => by
    have := pairPs_depth l
    simp [PyData.depthAll, pairP, PyData.depth]
    omega
theorem shaped_pairs (l : List (Int × Int)) : SeqAt.shaped (.list (l.map pairP)) = true := by
  have h1 := pairPs_lay l
  have h2 := pairPs_depth l
  simp [SeqAt.shaped, PyData.canLay0, PyData.depth, h1]
  omega
theorem at_last {l : List (Int × Int)} {q : Int × Int} (h : l.getLast? = some q) : atI (l.map (bpD K)) (-1) = some (bpD K q) := by
  have hl : l ≠ [] := fun e => by rw [e] at h; cases h
  have hp : 0 < l.length := List.length_pos_iff.mpr hl
  unfold atI
  have hx : ixN (l.map (bpD K)).length (-1) = some (l.length - 1) := by
    rw [List.length_map]
    unfold ixN
    simp
    omega
  rw [hx]
  show (l.map (bpD K))[l.length - 1]? = _
  rw [List.getElem?_map, ← List.getLast?_eq_getElem?, h]
  rfl
theorem pe_indexK (K : PySem.W.Frag) {X : Cx} {o e : Expr} {to : TE} {t : TA} {apos cpos : Pos} (ho : PE X o to) (ha : PA X [e] t) (hX : X.K = K := by rfl)
    (hbase : attributeBase o "index" X.env (eval o X.env) = eval o X.env := by rfl)
    (hfew : ((backTo cpos (starEach [e] X.env)).all (fun x => !x.1) && (backToKw cpos (keywordEach [] X.env)).all (fun x => x.1.isSome)
      && decide ([e].length + ([] : List Keyword).length + (if ([] : List Keyword).isEmpty then 0 else 1) < 30)) = true := by rfl)
    (hline : (apos.endLine == cpos.line) = true := by rfl) (hs : starEach [e] X.env = (false, eval e X.env) :: starEach [] X.env := by rfl) (hplain : (backTo cpos (starEach [] X.env)).any (·.1) = false := by rfl) :
    PE X (.Call (.Attribute o "index" apos) [e] [] cpos) (tBM K "list" (rIndex K) to t) := by
  subst hX
  exact pe_bm PySem.F.plainAttrs_list PySem.F.slot_list_index PySem.F.type_list_index mt_index ho ha hbase hfew hline hs hplain
theorem sm_seqS {r r1 : Rg} {ρ : Rho} {s1 s2 : TS} {o : OutM} (as : r1.as = r.as) (h1 : Sm r s1 ρ (.nx r1 ρ)) (h2 : Sm r1 s2 ρ o) : Sm r (tSeq s1 s2) ρ o := sm_seq as h1 h2

/-! Reader.pair_of -/
def R_Reader_pair_of (K : PySem.W.Frag) : List Dt → Dt → Prop := fun ds d => ∃ a : RdA, ∃ st : RSt, ∃ i : Nat, ∃ j : Nat, ∃ u : Str, ∃ v : Str, ((st.rows.map Row.name).Nodup ∧ st.rows.length ≤ 4) ∧ ((st.rows.map Row.name)[i]? = some u ∧ (st.rows.map Row.name)[j]? = some v) ∧ (i ≤ j) ∧ ds = [dRdr K a st, dLst K [dS u, dS v]] ∧ d = nTupI (pairI ((i : Int), (j : Int)))
abbrev N_Reader_pair_of : List Str := ["self", "words", "names", "row", "word", "one", "other"]
theorem sc_Reader_pair_of : FnScope N_Reader_pair_of ["self", "words"] (defScope s_Reader_pair_of) := ⟨rfl, rfl, rfl, by decide +kernel, rfl, by decide +kernel, by decide +kernel⟩
theorem fn_Reader_pair_of (T : Tx w K mg) : Mt0 P w K mg base 1 "Reader" "pair_of" ["self", "words"] (spP (R_Reader_pair_of K)) := by
  obtain ⟨fd, F⟩ := T.f_Reader_pair_of
  have nd := sc_Reader_pair_of.nd
  refine mk_mt T.me_Reader_pair_of (fn_pure F sc_Reader_pair_of (by rintro _ _ ⟨a, st, i, j, u, v, c0, c1, c2, rfl, rfl⟩; rfl) (fun cdv A outer s H E hr => ?_)) (F.bindsN fun _ _ _ _ _ _ us hl => match us, hl with | [_, _], _ => rfl)
  have hu := hu_of hr
  have hu65 := hu65 hr
  refine ⟨_, (pss_cons (ps_set (i := 2) nd rfl (Or.inr rfl) (pe_lc (own := [("row", 3)]) (by rfl) nd (pi_listK K (pe_fldK K (pv 0))) (blkOk_by (N := N_Reader_pair_of) (sc := defScope s_Reader_pair_of) (by decide +kernel)) (fun _ _ _ _ _ => (pg_name (i := 3) nd rfl (Or.inl rfl))) (fun _ _ _ _ _ => pts_nil) (fun _ _ _ _ _ => (pe_fldK K (pv 3))))) (pss_cons (ps_if (pt_not (pt_val (pe_bi (crK_all K) T.b_all (by decide +kernel) (pa_cons (pe_lc (own := [("word", 4)]) (by rfl) nd (pi_listK K (pv 1)) (blkOk_by (N := N_Reader_pair_of) (sc := defScope s_Reader_pair_of) (by decide +kernel)) (fun _ _ _ _ _ => (pg_name (i := 4) nd rfl (Or.inl rfl))) (fun _ _ _ _ _ => pts_nil) (fun _ _ _ _ _ => (pe_cmpR (opK_in K) (pv 4) (pv 2) (by rfl)))) pa_nil)))) (pss_one (ps_ret pe_non)) pss_nil) (pss_cons (ps_asg (pe_lc (own := [("word", 4)]) (by rfl) nd (pi_listK K (pv 1)) (blkOk_by (N := N_Reader_pair_of) (sc := defScope s_Reader_pair_of) (by decide +kernel)) (fun _ _ _ _ _ => (pg_name (i := 4) nd rfl (Or.inl rfl))) (fun _ _ _ _ _ => pts_nil) (fun _ _ _ _ _ => (pe_indexK K (pv 2) (pa_cons (pv 4) pa_nil)))) (pg_unlK K (n := 2) (pgs_cons (pg_name (i := 5) nd rfl (Or.inl rfl)) (pgs_cons (pg_name (i := 6) nd rfl (Or.inl rfl)) pgs_nil)))) (pss_one (ps_ret (pe_ifExp (pt_cmpR op_le (pv 5) (pv 6) (nomark _)) (pe_tup (pa_cons (pv 5) (pa_cons (pv 6) pa_nil))) pe_non)))))), ?_⟩
  rintro _ _ ⟨a, st, i, j, u, v, c0, c1, c2, rfl, rfl⟩
  obtain ⟨hnd, h4⟩ := c0
  obtain ⟨hi, hj⟩ := c1
  have hiu : u ∈ st.rows.map Row.name := List.mem_of_getElem? hi
  have hjv : v ∈ st.rows.map Row.name := List.mem_of_getElem? hj
  refine sd_seq (sd_set (ed_is (ed_lc0 (K := K) st.rows (dRow K) (fun r => dS r.name) (wd_list (ed_fld ed_var (fd_Reader_own_rows T))) (by omega) (by decide) (fun _ _ => imm_V _) fun r hr => ⟨_, gd_name, (ed_fld ed_var (fd_Row_own_name T))⟩) (x' := dLst K ((st.rows.map Row.name).map fun s => dS s)) (by rw [List.map_map] <;> rfl))) ?_
  refine sd_ifR (td_not (td_B (ed_cb (eda_cons (ed_is (ed_lc0 (K := K) [u, v] (fun s => dS s) (fun s => dB (decide (s ∈ st.rows.map Row.name))) (wd_list ed_var) (by simp) (by decide) (fun _ _ => imm_V _) fun s hs => ⟨_, gd_name, (ed_inLS ed_var ed_var)⟩) (x' := dLst K ([true, true].map fun b => dB b)) (by
    show dLst K [dB (decide (u ∈ st.rows.map Row.name)), dB (decide (v ∈ st.rows.map Row.name))] = _
    rw [decide_eq_true hiu, decide_eq_true hjv]
    rfl)) eda_nil) (cd_all (K := K))))) (fun hb => absurd hb (by decide)) (fun _ => ?_)
  refine sd_seq (sd_asg (ed_lc0 (K := K) [(u, i), (v, j)] (fun p => dS p.1) (fun p => dI (p.2 : Int)) (wd_list ed_var) (by simp) (by decide) (fun _ _ => imm_V _) fun p hp => ⟨_, gd_name, (ed_index (ss := st.rows.map Row.name) (j := p.2) (s := p.1) ed_var (by
    simp only [List.mem_cons, List.not_mem_nil, or_false] at hp
    rcases hp with rfl | rfl
    · exact hi
    · exact hj) hnd ed_var)⟩) (gd_unl (ds := [dI (i : Int), dI (j : Int)]) (gds_cons gd_name (gds_cons gd_name gds_nil)))) (sd_ret ?_)
  exact ed_if (td_test (ed_le ed_var ed_var)) (fun _ => (ed_tupN (eda_cons ed_var (eda_cons ed_var eda_nil)) (by simp [pairI]))) (fun hb => absurd (of_decide_eq_false hb) (by omega))

/-! Reader.take_zooms -/
def R_Reader_take_zooms (K : PySem.W.Frag) : List Dt → Rg → Rg → Dt → Prop := fun ds r r2 d => ∃ a : RdA, ∃ st : RSt, ∃ n : Nat, (1 ≤ n ∧ n ≤ 5) ∧ ds = [dV (.ref a.p), dLst K [dS "zooms", dS (numS n)]] ∧ r = rdR K a st ∧ r2 = rdR K a { st with last := (n : Int) - 1 } ∧ d = dB true
abbrev N_Reader_take_zooms : List Str := ["self", "words", "number"]
theorem sc_Reader_take_zooms : FnScope N_Reader_take_zooms ["self", "words"] (defScope s_Reader_take_zooms) := ⟨rfl, rfl, rfl, by decide +kernel, rfl, by decide +kernel, by decide +kernel⟩
theorem fn_Reader_take_zooms (T : Tx w K mg) : Mt0 P w K mg base 3 "Reader" "take_zooms" ["self", "words"] (spM (R_Reader_take_zooms K)) := by
  obtain ⟨fd, F⟩ := T.f_Reader_take_zooms
  have nd := sc_Reader_take_zooms.nd
  refine mk_mt T.me_Reader_take_zooms (fn_M F sc_Reader_take_zooms (by rintro _ _ _ _ ⟨a, st, n, c0, rfl, rfl, rfl, rfl⟩; rfl) (fun cdv A outer s H E hr => ?_)) (F.bindsN fun _ _ _ _ _ _ us hl => match us, hl with | [_, _], _ => rfl)
  have hu := hu_of hr
  have hu65 := hu65 hr
  refine ⟨_, (pss_cons (ps_set (i := 2) nd rfl (Or.inl rfl) (pe_ifExp (pt_cmpR op_eq (pe_bi (crK_len K) T.b_len (by decide +kernel) (pa_cons (pv 1) pa_nil)) (pe_gint T.c_ZOOMS_WORDS) (nomark _)) (pe_callF (fn_whole_in T) (hr.mono (by decide)) (pa_cons (pe_ix (ixK_list K) (pv 1) pe_int (fun _ _ => rfl)) pa_nil)) pe_non)) (pss_cons (ps_if (pt_not (pt_val (pe_callF (fn_is_between T) hr (pa_cons (pv 2) (pa_cons pe_int (pa_cons (pe_gint T.c_MOST_ZOOMS) pa_nil)))))) (pss_one (ps_ret pe_bl)) pss_nil) (pss_cons (ps_fldK K (pv 0) (pe_op op_sub (pv 2) pe_int)) (pss_one (ps_ret pe_bl))))), ?_⟩
  rintro _ _ _ _ ⟨a, st, n, c0, rfl, rfl, rfl, rfl⟩
  refine sm_seq rfl (sm_set rfl (em_e (ed_if (td_test (ed_eqI (ed_cb (eda_cons ed_var eda_nil) cd_lenL) ed_c)) (fun _ => (ed_call (eda_cons (ed_ixL (K := K) ed_var ed_c (atI_in (by decide) rfl)) eda_nil) ⟨n, by omega, rfl, rfl⟩)) (fun hb => absurd hb (by simp))) hidr_V)) ?_
  refine sm_ifR rfl (tm_e (td_not (td_B (ed_call (eda_cons ed_var (eda_cons ed_c (eda_cons ed_c eda_nil))) ⟨_, _, _, rfl, rfl⟩)))) (fun hb => ?_) (fun _ => ?_)
  · rw [decide_eq_true (show (1 : Int) ≤ (n : Int) by omega), decide_eq_true (show (n : Int) ≤ 5 by omega)] at hb
    exact absurd hb (by decide)
  · refine sm_seqS (r1 := rdR K a { st with last := (n : Int) - 1 }) rfl ?_ (sm_ret (r := rdR K a { st with last := (n : Int) - 1 }) (em_e ed_c hidr_V))
    exact sm_fld (rd_last T) ok_var0 (em_e (ed_sub (ed_var (i := 2)) ed_c) hidr_V) (by simp [rdR, RdA.as])

/-! Reader.take_class -/
def R_Reader_take_class (K : PySem.W.Frag) : List Dt → Rg → Rg → Dt → Prop := fun ds r r2 d => ∃ a : RdA, ∃ st : RSt, ∃ c : Row, (c.Ok st.last ∧ st.last ≤ 4) ∧ (GoodSizes c.sizes) ∧ (st.rows.length < 4 ∧ c.name ∉ st.rows.map Row.name) ∧ ds = [dV (.ref a.p), dLst K ((rowWords c).map fun s => dS s)] ∧ r = rdR K a st ∧ r2 = rdR K a { st with rows := st.rows ++ [c] } ∧ d = dB true
abbrev N_Reader_take_class : List Str := ["self", "words", "row", "one"]
theorem sc_Reader_take_class : FnScope N_Reader_take_class ["self", "words"] (defScope s_Reader_take_class) := ⟨rfl, rfl, rfl, by decide +kernel, rfl, by decide +kernel, by decide +kernel⟩
theorem fn_Reader_take_class (T : Tx w K mg) : Mt0 P w K mg base 5 "Reader" "take_class" ["self", "words"] (spM (R_Reader_take_class K)) := by
  obtain ⟨fd, F⟩ := T.f_Reader_take_class
  have nd := sc_Reader_take_class.nd
  refine mk_mt T.me_Reader_take_class (fn_M F sc_Reader_take_class (by rintro _ _ _ _ ⟨a, st, c, c0, c1, c2, rfl, rfl, rfl, rfl⟩; rfl) (fun cdv A outer s H E hr => ?_)) (F.bindsN fun _ _ _ _ _ _ us hl => match us, hl with | [_, _], _ => rfl)
  have hu := hu_of hr
  have hu65 := hu65 hr
  refine ⟨_, (pss_cons (ps_set (i := 2) nd rfl (Or.inl rfl) (pe_callF (fn_class_row T) hr (pa_cons (pv 1) (pa_cons (pe_fldK K (pv 0)) pa_nil)))) (pss_cons (ps_if (PW.pt (pw_or (pt_cmp (pc_isN (pv 2))) (pw_or (pt_cmpR op_eq (pe_bi (crK_len K) T.b_len (by decide +kernel) (pa_cons (pe_fldK K (pv 0)) pa_nil)) (pe_gint T.c_MOST_CLASSES) (nomark _)) (pw_or1 (pt_cmpR (opK_in K) (pe_fldK K (pv 2)) (pe_lc (own := [("one", 3)]) (by rfl) nd (pi_listK K (pe_fldK K (pv 0))) (blkOk_by (N := N_Reader_take_class) (sc := defScope s_Reader_take_class) (by decide +kernel)) (fun _ _ _ _ _ => (pg_name (i := 3) nd rfl (Or.inl rfl))) (fun _ _ _ _ _ => pts_nil) (fun _ _ _ _ _ => (pe_fldK K (pv 3)))) (by rfl)))))) (pss_one (ps_ret pe_bl)) pss_nil) (pss_cons (ps_expr (pe_bm PySem.F.plainAttrs_list PySem.F.slot_list_append PySem.F.type_list_append mt_append (pe_fldK K (pv 0)) (pa_cons (pv 2) pa_nil))) (pss_one (ps_ret pe_bl))))), ?_⟩
  rintro _ _ _ _ ⟨a, st, c, c0, c1, c2, rfl, rfl, rfl, rfl⟩
  obtain ⟨h1, h2⟩ := c2
  refine sm_seq rfl (sm_set rfl (em_of (ed_call (eda_cons ed_var (eda_cons (ed_fld ed_var (fd_Reader_own_last T)) eda_nil)) ⟨c, _, c0, c1, rfl, rfl⟩) rd_env (hidR_rd hidL_row))) ?_
  refine sm_ifR rfl (tm_of (td_or (td_B (ed_isSome ed_var notN_row)) fun _ => (td_or (td_test (ed_eqI (ed_cb (eda_cons (ed_fld ed_var (fd_Reader_own_rows T)) eda_nil) cd_lenL) ed_c)) fun _ => (td_test (ed_inLS (K := K) (ed_fld ed_var (fd_Row_own_name T)) (ed_is (ed_lc0 (K := K) st.rows (dRow K) (fun r => dS r.name) (wd_list (ed_fld ed_var (fd_Reader_own_rows T))) (by omega) (by decide) (fun _ _ => imm_V _) fun r hr => ⟨_, gd_name, (ed_fld ed_var (fd_Row_own_name T))⟩) (x' := dLst K ((st.rows.map Row.name).map fun s => dS s)) (by rw [List.map_map] <;> rfl)))))) rd_env) (fun hb => ?_) (fun _ => ?_)
  · rw [List.length_map, decide_eq_false (show ¬ (st.rows.length : Int) = 4 by omega), decide_eq_false h2] at hb
    exact absurd hb (by decide)
  · refine sm_seqS (r1 := rdR K a { st with rows := st.rows ++ [c] }) rfl ?_ (sm_ret (r := rdR K a { st with rows := st.rows ++ [c] }) (em_e ed_c hidr_V))
    exact sm_app (l := a.lr) (d := dRow K c) (rd_fld (st := st) T T.na_Reader_own_rows (by kernel_rfl)) (em_var (i := 2)) (by simp [rdR, RdA.as]) (rd_app_rows (by omega))

/-! Reader.take_beside -/
def R_Reader_take_beside (K : PySem.W.Frag) : List Dt → Rg → Rg → Dt → Prop := fun ds r r2 d => ∃ a : RdA, ∃ st : RSt, ∃ i : Nat, ∃ j : Nat, ∃ u : Str, ∃ v : Str, ((st.rows.map Row.name).Nodup ∧ st.rows.length ≤ 4) ∧ ((st.rows.map Row.name)[i]? = some u ∧ (st.rows.map Row.name)[j]? = some v) ∧ (i ≤ j) ∧ (st.bes.length ≤ 90 ∧ ∀ q, st.bes.getLast? = some q → ltP q ((i : Int), (j : Int)) = true) ∧ ds = [dV (.ref a.p), dLst K [dS "beside", dS u, dS v]] ∧ r = rdR K a st ∧ r2 = rdR K a { st with bes := st.bes ++ [((i : Int), (j : Int))] } ∧ d = dB true
abbrev N_Reader_take_beside : List Str := ["self", "words", "pair"]
theorem sc_Reader_take_beside : FnScope N_Reader_take_beside ["self", "words"] (defScope s_Reader_take_beside) := ⟨rfl, rfl, rfl, by decide +kernel, rfl, by decide +kernel, by decide +kernel⟩
theorem fn_Reader_take_beside (T : Tx w K mg) : Mt0 P w K mg base 2 "Reader" "take_beside" ["self", "words"] (spM (R_Reader_take_beside K)) := by
  obtain ⟨fd, F⟩ := T.f_Reader_take_beside
  have nd := sc_Reader_take_beside.nd
  refine mk_mt T.me_Reader_take_beside (fn_M F sc_Reader_take_beside (by rintro _ _ _ _ ⟨a, st, i, j, u, v, c0, c1, c2, c3, rfl, rfl, rfl, rfl⟩; rfl) (fun cdv A outer s H E hr => ?_)) (F.bindsN fun _ _ _ _ _ _ us hl => match us, hl with | [_, _], _ => rfl)
  have hu := hu_of hr
  have hu65 := hu65 hr
  refine ⟨_, (pss_cons (ps_set (i := 2) nd rfl (Or.inl rfl) (pe_ifExp (pt_cmpR op_eq (pe_bi (crK_len K) T.b_len (by decide +kernel) (pa_cons (pv 1) pa_nil)) (pe_gint T.c_BESIDE_WORDS) (nomark _)) (pe_methF (fn_Reader_pair_of T) T.cl_Reader hr (pv 0) (pa_cons (pe_slice (slK_list K) (pv 1) (po_some pe_int) po_none) pa_nil)) pe_non)) (pss_cons (ps_if (PW.pt (pw_or (pt_cmp (pc_isN (pv 2))) (pw_or1 (PW.pt (pw_and (pt_cmpR (opK_neD K hu65) (pe_fldK K (pv 0)) (pe_lst pa_nil) (nomark _)) (pw_and1 (pt_cmpR (opK_leT K hu) (pv 2) (pe_ix (ixK_list K) (pe_fldK K (pv 0)) (pe_un un_neg pe_int) (fun _ _ => rfl)) (nomark _)))))))) (pss_one (ps_ret pe_bl)) pss_nil) (pss_cons (ps_expr (pe_bm PySem.F.plainAttrs_list PySem.F.slot_list_append PySem.F.type_list_append mt_append (pe_fldK K (pv 0)) (pa_cons (pv 2) pa_nil))) (pss_one (ps_ret pe_bl))))), ?_⟩
  rintro _ _ _ _ ⟨a, st, i, j, u, v, c0, c1, c2, c3, rfl, rfl, rfl, rfl⟩
  obtain ⟨h1, h2⟩ := c3
  refine sm_seq rfl (sm_set rfl (em_of (d := bpD K ((i : Int), (j : Int))) (ed_if (td_test (ed_eqI (ed_cb (eda_cons ed_var eda_nil) cd_lenL) ed_c)) (fun _ => (ed_w (K := K) (ed_meth ed_var md_Reader (eda_cons (ed_is (ed_slL ed_var (edo_some ed_c) edo_none) (x' := dLst K [dS u, dS v]) rfl) eda_nil) ⟨a, st, i, j, u, v, c0, c1, c2, rfl, rfl⟩))) (fun hb => absurd hb (by simp))) rd_env (hidR_rd hidL_tupI))) ?_
  refine sm_ifR rfl (tm_of (a := false) (td_or (a := false) (td_B (ed_isSome ed_var notN_tup)) fun _ => ?_) rd_env) (fun hb => absurd hb (by decide)) (fun _ => ?_)
  · cases hl : st.bes.getLast? with
    | none =>
      have he : st.bes = [] := List.getLast?_eq_none_iff.mp hl
      refine td_and (a := false) (b := false) (td_is (td_test (ed_neD (ed_fld ed_var (fd_Reader_own_beside T)) (ed_lst (K := K) eda_nil (by simp)) (pd_lstM st.bes fun q => pd_pair q) (pd_lst (ds := []) (es := []) rfl (fun i d e h => by simp at h)) (shaped_pairs _) (by decide))) (by rw [he]; rfl)) fun h => absurd h (by decide)
    | some q =>
      have hne : st.bes ≠ [] := fun e => by rw [e] at hl; cases hl
      have hlt := h2 q hl
      refine td_and (a := true) (b := false) (td_is (td_test (ed_neD (ed_fld ed_var (fd_Reader_own_beside T)) (ed_lst (K := K) eda_nil (by simp)) (pd_lstM st.bes fun q => pd_pair q) (pd_lst (ds := []) (es := []) rfl (fun i d e h => by simp at h)) (shaped_pairs _) (by decide))) (by
        cases hb : st.bes with
        | nil => exact absurd hb hne
        | cons a l => rfl)) fun _ => td_is (td_test (ed_leP (p := ((i : Int), (j : Int))) (q := q) ed_var (ed_ixL (K := K) (ed_fld ed_var (fd_Reader_own_beside T)) (ed_neg ed_c) (at_last hl)))) (by rw [leP_not hlt])
  · refine sm_seqS (r1 := rdR K a { st with bes := st.bes ++ [((i : Int), (j : Int))] }) rfl ?_ (sm_ret (r := rdR K a { st with bes := st.bes ++ [((i : Int), (j : Int))] }) (em_e ed_c hidr_V))
    exact sm_app (l := a.lb) (d := bpD K ((i : Int), (j : Int))) (rd_fld (st := st) T T.na_Reader_own_beside (by kernel_rfl)) (em_var (i := 2)) (by simp [rdR, RdA.as]) (rd_app_bes (by omega))

end
end Sl
namespace Sl
open PySem PySem.Spec PyProof.Rows L2 StX RZ
open Evl (Ex ex_l ex_t ex_rd sq_of st_of sz_of sz_lt fresh_back)
local macro_rules | `(tactic| walk_at "sd") => `(tactic| first | assumption | omega | decide | (constructor <;> assumption) | (constructor <;> omega))
section
variable {P : Program} {w : World} {K : PySem.W.Frag} {mg : Str → Option Value} {base : Heap}

def farP (p : (Int × Int) × Int) : PyData := .tuple [pairP p.1, .int p.2]
theorem pd_far (p : (Int × Int) × Int) : PD K (farT K p) (farP p) := pd_tup rfl fun i d e h1 h2 => match i, h1, h2 with
  | 0, h1, h2 => by cases h1; cases h2; exact pd_pairN p.1
  | 1, h1, h2 => by cases h1; cases h2; exact pd_I
  | _ + 2, h1, _ => by simp at h1
theorem fars_lay : ∀ l : List ((Int × Int) × Int), PyData.canLayAll0 (l.map farP) = true ∧ PyData.depthAll (l.map farP) ≤ 2
  | [] => ⟨rfl, by simp [PyData.depthAll]⟩
  | p :: l => by
    obtain ⟨h1, h2⟩ := fars_lay l
    constructor
    · simp [PyData.canLayAll0, PyData.canLay0, farP, pairP, h1]
    · simp [PyData.depthAll, farP, pairP, PyData.depth]
      omega
theorem shaped_fars (l : List ((Int × Int) × Int)) : SeqAt.shaped (.list (l.map farP)) = true := by
  obtain ⟨h1, h2⟩ := fars_lay l
  simp [SeqAt.shaped, PyData.canLay0, PyData.depth, h1]
  omega
theorem at_lastF {l : List ((Int × Int) × Int)} {q : (Int × Int) × Int} (h : l.getLast? = some q) : atI (l.map (farT K)) (-1) = some (farT K q) := by
  have hl : l ≠ [] := fun e => by rw [e] at h; cases h
  have hp : 0 < l.length := List.length_pos_iff.mpr hl
  unfold atI
  have hx : ixN (l.map (farT K)).length (-1) = some (l.length - 1) := by
    rw [List.length_map]
    unfold ixN
    simp
    omega
  rw [hx]
  show (l.map (farT K))[l.length - 1]? = _
  rw [List.getElem?_map, ← List.getLast?_eq_getElem?, h]
  rfl
theorem hidL_far {p : (Int × Int) × Int} : HidL (farT K p) := hidL_tup fun d hd => by
  simp only [List.mem_cons, List.not_mem_nil, or_false] at hd
  rcases hd with rfl | rfl
  · exact hidL_nTupI
  · exact hidL_V
/-- a line's words and what a Reader is behind it -/
inductive Step : RSt → List Str → RSt → Prop where
  | zooms {st : RSt} {n : Nat} (h : st.sort = "") (hn : 1 ≤ n ∧ n ≤ 5) : Step st ["zooms", numS n] { st with sort := "zooms", last := (n : Int) - 1 }
  | cls {st : RSt} {c : Row} (h : st.sort = "zooms" ∨ st.sort = "class") (h1 : c.Ok st.last ∧ st.last ≤ 4) (h2 : GoodSizes c.sizes) (h3 : st.rows.length < 4 ∧ c.name ∉ st.rows.map Row.name) : Step st (rowWords c) { st with sort := "class", rows := st.rows ++ [c] }
  | bes {st : RSt} {i j : Nat} {u v : Str} (h : st.sort = "class" ∨ st.sort = "beside") (h1 : (st.rows.map Row.name).Nodup ∧ st.rows.length ≤ 4) (h2 : (st.rows.map Row.name)[i]? = some u ∧ (st.rows.map Row.name)[j]? = some v) (h3 : i ≤ j)
      (h4 : st.bes.length ≤ 90 ∧ ∀ q, st.bes.getLast? = some q → ltP q ((i : Int), (j : Int)) = true) : Step st ["beside", u, v] { st with sort := "beside", bes := st.bes ++ [((i : Int), (j : Int))] }
  | far {st : RSt} {i j n : Nat} {u v : Str} (h : st.sort = "class" ∨ st.sort = "beside" ∨ st.sort = "far") (h1 : (st.rows.map Row.name).Nodup ∧ st.rows.length ≤ 4) (h2 : (st.rows.map Row.name)[i]? = some u ∧ (st.rows.map Row.name)[j]? = some v) (h3 : i ≤ j)
      (h4 : st.far.length ≤ 90 ∧ ∀ q, st.far.getLast? = some q → ltP q.1 ((i : Int), (j : Int)) = true) (h5 : 1 ≤ n ∧ n ≤ 9999) : Step st ["far", u, v, numS n] { st with sort := "far", far := st.far ++ [(((i : Int), (j : Int)), (n : Int))] }
section
variable {r r' r1 : Rg} {ρ : Rho} {ta te : TE} {s1 s2 : TS} {d : Dt} {o : OutM}
theorem sm_seqR (h1 : Sm r s1 ρ (.ret r' d)) : Sm r (tSeq s1 s2) ρ (.ret r' d) := fun H σ D e k => h1 H σ { D with nx := s2 D } e k
theorem sm_match {t : V → TS} {w : Str} (h : Em r r te ρ (dS w)) (ht : Sm r (t (.str w)) ρ o) : Sm r (tMt te t) ρ o := fun H σ D e k => h H σ e _ fun v H1 j1 e1 p1 => by
  have p' : v = .str w := p1
  subst p'
  exact ht H1 σ D ⟨j1, e.2.mono e1⟩ (k.mono e1)
theorem sm_hit {t1 : TS} {t2 : V → TS} {w lit : Str} (hw : w = lit) (h : Sm r t1 ρ o) : Sm r (tMc lit t1 t2 (.str w)) ρ o := fun H σ D e k => ⟨w, rfl, fun _ => h H σ D e k, fun n => absurd hw n⟩
theorem sm_miss {t1 : TS} {t2 : V → TS} {w lit : Str} (hw : w ≠ lit) (h : Sm r (t2 (.str w)) ρ o) : Sm r (tMc lit t1 t2 (.str w)) ρ o := fun H σ D e k => ⟨w, rfl, fun n => absurd n hw, fun _ => h H σ D e k⟩
/-- line.split(" ") -/
theorem em_split {a b : Str} {ws : List Str} (h : Em r r ta ρ (dS a)) (hb : (b.length == 0) = false) (hl : a.length ≤ 10000) (hs : Txt.split a b = ws) : Em r r (tM1 (fun x xs H Q => ∃ a b, x = .str a ∧ xs = [.str b] ∧ (b.length == 0) = false ∧ a.length + 2 ≤ sizeLine ∧ rNewStrs (Txt.split a b) H Q) ta (tC (.str b))) ρ (dLst K (ws.map fun s => dS s)) := fun H σ e Q q =>
  h H σ e _ fun v H1 j1 e1 p1 => by
    have p' : v = .str a := p1
    subst p'
    refine ⟨⟨a, rfl⟩, a, b, rfl, rfl, hb, sz_of (by omega), fun p hp => ?_⟩
    have hn : p ∉ r.as := fun hm => r.live j1 p hm hp
    rw [hs]
    exact q _ _ (r.mono (Ex.new hp) j1) (e1.trans (hideL_mono (Ex.new hp))) ⟨p, _, rfl, by rw [hideL_at hn]; exact upd_same, All2.of_vals V.str _⟩
/-- o.m(..) with a promise of a region -/
theorem em_meth {R : List Dt → Rg → Rg → Dt → Prop} {E : XK} {t : TA} {ds : List Dt} {C : Addr} {m : Str} {x : Addr} (as : r1.as = r.as) (h : Em r r1 ta ρ (dV (.ref x))) (hm : ∀ H, r1.J H → ∃ dx fs, H x = some (.ins C dx fs) ∧ fs.lookup m = none) (ht : EmA r1 r1 t ρ ds) (hr : R (dV (.ref x) :: ds) r1 r' d) : Em r r' (tMeth C m (spM R) [] E ta t) ρ d := fun H σ e Q q =>
  h H σ e _ fun v H1 j1 e1 p1 => by
    have p' : v = .ref x := p1
    subst p'
    obtain ⟨dx, fs, h2, n⟩ := hm H1 j1
    exact ⟨x, dx, fs, rfl, h2, n, ht H1 σ (e.next as j1 e1) _ fun vs H2 j2 e2 p2 => ⟨dV (.ref x) :: ds, r1, r', d, hr, j2, by rw [List.append_nil]; exact ⟨rfl, p2⟩, fun w H3 j3 e3 p3 => by
      rw [as] at e2 e3 p3
      exact q w H3 j3 ((e1.trans e2).trans e3) p3⟩⟩
end
theorem Tx.beh (T : Tx w K mg) : mg "BEHIND" = some (.ref (He.ga K "BEHIND")) ∧ ∀ r ∈ bhRows, KDct K w (He.ga K "BEHIND") r.1 (.ref (bhA K r.1)) ∧ ∀ H, SqT K H (bhA K r.1) (r.2.map V.str) := by
  obtain ⟨h, X, G, c⟩ := T.ex
  obtain ⟨es, n, D⟩ := c.t.tab 0 (t := ((fun K => He.ga K "BEHIND"), ["", "zooms", "class", "beside", "far"])) rfl
  obtain ⟨h1, h2⟩ := He.ba c.more
  obtain ⟨h3, h4⟩ := He.ba h2
  obtain ⟨h5, h6⟩ := He.ba h4
  refine ⟨He.glo_ok X G h5, fun r hr => ?_⟩
  have h7 := List.all_eq_true.mp h6 r hr
  obtain ⟨h8, h9⟩ := He.ba h7
  exact ⟨⟨es, n, .ref (bhA K r.1), D.1, D.2, of_decide_eq_true h8, rfl⟩, fun H => tupAtB_ok h9 H⟩
theorem Tx.g_BEHIND (T : Tx w K mg) : mg "BEHIND" = some (.ref (He.ga K "BEHIND")) := T.beh.1
theorem ixK_kd {X : Cx} (K : PySem.W.Frag) (w : World) (hX : X.K = K ∧ X.w = w := by exact ⟨rfl, rfl⟩) : IxR X (rIxD K w) := by
  obtain ⟨rfl, rfl⟩ := hX
  exact ix_kdict
theorem ed_beh {ρ : Rho} {tb : TE} {s : Str} {ws : List Str} (T : Tx w K mg) (h : Ed tb ρ (dS s)) (hm : (s, ws) ∈ bhRows) : Ed (tOp (rIxD K w) (tC (.ref (He.ga K "BEHIND"))) tb) ρ (dTup K (ws.map fun s => dS s)) := ed_op ed_c h fun H u v hu hv Q k => by
  have hu' : u = .ref (He.ga K "BEHIND") := hu
  have hv' : v = .str s := hv
  subst hu' hv'
  obtain ⟨h1, h2⟩ := T.beh.2 _ hm
  exact ⟨_, s, _, rfl, rfl, h1, k _ H (Ex.refl H) ⟨_, _, rfl, h2 H, All2.of_vals V.str _⟩⟩
theorem ed_notinTS {ρ : Rho} {ta tb : TE} {n : Str} {ss : List Str} (ha : Ed ta ρ (dS n)) (hb : Ed tb ρ (dTup K (ss.map fun s => dS s))) : Ed (tOp (rIn K true) ta tb) ρ (dB (!decide (n ∈ ss))) := ed_op ha hb fun H u v hu ⟨p, vs, a, b, c⟩ Q k => by
  have hu' : u = .str n := hu
  have hv := strs_all2 c
  subst hu' hv
  exact ⟨p, _, a, .inr b, rfl, by rw [List.all_map]; exact List.all_eq_true.mpr fun _ _ => rfl, k _ H (Ex.refl H) (by rw [inV_strs]; rfl)⟩
theorem at_head {ws wr : List Str} {w0 : Str} (h : ws = w0 :: wr) : atI (ws.map fun s => dS s) 0 = some (dS w0) := by
  rw [h]
  exact atI_in (by decide) rfl
theorem rd_ins {a : RdA} {st : RSt} {m : Str} (h : (rdrF a st).lookup m = none) : ∀ H, (rdR K a st).J H → ∃ dx fs, H a.p = some (.ins (He.ga K "Reader") dx fs) ∧ fs.lookup m = none := fun H ⟨dx, vr, vb, vf, j⟩ => ⟨dx, _, j.ip, h⟩

/-! Reader.take_far -/
def R_Reader_take_far (K : PySem.W.Frag) : List Dt → Rg → Rg → Dt → Prop := fun ds r r2 d => ∃ a : RdA, ∃ st : RSt, ∃ i : Nat, ∃ j : Nat, ∃ u : Str, ∃ v : Str, ∃ n : Nat, ((st.rows.map Row.name).Nodup ∧ st.rows.length ≤ 4) ∧ ((st.rows.map Row.name)[i]? = some u ∧ (st.rows.map Row.name)[j]? = some v) ∧ (i ≤ j) ∧ (st.far.length ≤ 90 ∧ ∀ q, st.far.getLast? = some q → ltP q.1 ((i : Int), (j : Int)) = true) ∧ (1 ≤ n ∧ n ≤ 9999) ∧ ds = [dV (.ref a.p), dLst K [dS "far", dS u, dS v, dS (numS n)]] ∧ r = rdR K a st ∧ r2 = rdR K a { st with far := st.far ++ [(((i : Int), (j : Int)), (n : Int))] } ∧ d = dB true
abbrev N_Reader_take_far : List Str := ["self", "words", "pair"]
theorem sc_Reader_take_far : FnScope N_Reader_take_far ["self", "words"] (defScope s_Reader_take_far) := ⟨rfl, rfl, rfl, by decide +kernel, rfl, by decide +kernel, by decide +kernel⟩
theorem fn_Reader_take_far (T : Tx w K mg) : Mt0 P w K mg base 3 "Reader" "take_far" ["self", "words"] (spM (R_Reader_take_far K)) := by
  obtain ⟨fd, F⟩ := T.f_Reader_take_far
  have nd := sc_Reader_take_far.nd
  refine mk_mt T.me_Reader_take_far (fn_M F sc_Reader_take_far (by rintro _ _ _ _ ⟨a, st, i, j, u, v, n, c0, c1, c2, c3, c4, rfl, rfl, rfl, rfl⟩; rfl) (fun cdv A outer s H E hr => ?_)) (F.bindsN fun _ _ _ _ _ _ us hl => match us, hl with | [_, _], _ => rfl)
  have hu := hu_of hr
  have hu65 := hu65 hr
  refine ⟨_, (pss_cons (ps_set (i := 2) nd rfl (Or.inl rfl) (pe_ifExp (pt_cmpR op_eq (pe_bi (crK_len K) T.b_len (by decide +kernel) (pa_cons (pv 1) pa_nil)) (pe_gint T.c_FAR_WORDS) (nomark _)) (pe_methF (fn_Reader_pair_of T) T.cl_Reader (hr.mono (by decide)) (pv 0) (pa_cons (pe_slice (slK_list K) (pv 1) (po_some pe_int) (po_some (pe_un un_neg pe_int))) pa_nil)) pe_non)) (pss_cons (ps_if (PW.pt (pw_or (pt_cmp (pc_isN (pv 2))) (pw_or1 (PW.pt (pw_and (pt_cmpR (opK_neD K hu65) (pe_fldK K (pv 0)) (pe_lst pa_nil) (nomark _)) (pw_and1 (pt_cmpR (opK_leT K hu) (pv 2) (pe_ix (ixK_tup K) (pe_ix (ixK_list K) (pe_fldK K (pv 0)) (pe_un un_neg pe_int) (fun _ _ => rfl)) pe_int (fun _ _ => rfl)) (nomark _)))))))) (pss_one (ps_ret pe_bl)) pss_nil) (pss_cons (ps_expr (pe_bm PySem.F.plainAttrs_list PySem.F.slot_list_append PySem.F.type_list_append mt_append (pe_fldK K (pv 0)) (pa_cons (pe_tup (pa_cons (pv 2) (pa_cons (pe_callF (fn_whole_in T) (hr.mono (by decide)) (pa_cons (pe_ix (ixK_list K) (pv 1) (pe_un un_neg pe_int) (fun _ _ => rfl)) pa_nil)) pa_nil))) pa_nil))) (pss_one (ps_ret (pe_callF (fn_is_between T) hr (pa_cons (pe_ix (ixK_tup K) (pe_ix (ixK_list K) (pe_fldK K (pv 0)) (pe_un un_neg pe_int) (fun _ _ => rfl)) pe_int (fun _ _ => rfl)) (pa_cons pe_int (pa_cons (pe_gint T.c_MOST_FAR) pa_nil))))))))), ?_⟩
  rintro _ _ _ _ ⟨a, st, i, j, u, v, n, c0, c1, c2, c3, c4, rfl, rfl, rfl, rfl⟩
  obtain ⟨h1, h2⟩ := c3
  refine sm_seq rfl (sm_set rfl (em_of (d := nTupI (pairI ((i : Int), (j : Int)))) (ed_if (td_test (ed_eqI (ed_cb (eda_cons ed_var eda_nil) cd_lenL) ed_c)) (fun _ => (ed_meth ed_var md_Reader (eda_cons (ed_is (ed_slL ed_var (edo_some ed_c) (edo_some (ed_neg ed_c))) (x' := dLst K [dS u, dS v]) rfl) eda_nil) ⟨a, st, i, j, u, v, c0, c1, c2, rfl, rfl⟩)) (fun hb => absurd hb (by simp))) rd_env (hidR_rd hidL_nTupI))) ?_
  refine sm_ifR rfl (tm_of (a := false) (td_or (a := false) (td_B (ed_isSome (ed_w (K := K) ed_var) notN_tup)) fun _ => ?_) rd_env) (fun hb => absurd hb (by decide)) (fun _ => ?_)
  · cases hl : st.far.getLast? with
    | none =>
      have he : st.far = [] := List.getLast?_eq_none_iff.mp hl
      refine td_and (a := false) (b := false) (td_is (td_test (ed_neD (ed_fld ed_var (fd_Reader_own_far T)) (ed_lst (K := K) eda_nil (by simp)) (pd_lstM st.far fun q => pd_far q) (pd_lst (ds := []) (es := []) rfl (fun i d e h => by simp at h)) (shaped_fars _) (by decide))) (by rw [he]; rfl)) fun h => absurd h (by decide)
    | some q =>
      have hne : st.far ≠ [] := fun e => by rw [e] at hl; cases hl
      have hlt := h2 q hl
      refine td_and (a := true) (b := false) (td_is (td_test (ed_neD (ed_fld ed_var (fd_Reader_own_far T)) (ed_lst (K := K) eda_nil (by simp)) (pd_lstM st.far fun q => pd_far q) (pd_lst (ds := []) (es := []) rfl (fun i d e h => by simp at h)) (shaped_fars _) (by decide))) (by
        cases hb : st.far with
        | nil => exact absurd hb hne
        | cons a l => rfl)) fun _ => td_is (td_test (ed_leP (p := ((i : Int), (j : Int))) (q := q.1) (ed_w (K := K) ed_var) (ed_w (K := K) (ed_ixT (ed_ixL (K := K) (ed_fld ed_var (fd_Reader_own_far T)) (ed_neg ed_c) (at_lastF hl)) ed_c rfl)))) (by rw [leP_not hlt])
  · refine sm_seqS (r1 := rdR K a { st with far := st.far ++ [(((i : Int), (j : Int)), (n : Int))] }) rfl ?_ (sm_ret ?_)
    · exact sm_app (l := a.lf) (d := farT K (((i : Int), (j : Int)), (n : Int))) (rd_fld (st := st) T T.na_Reader_own_far (by kernel_rfl)) (em_e (ed_tup (eda_cons (ed_var (i := 2)) (eda_cons (ed_call (eda_cons (ed_ixL (K := K) (ed_var (i := 1)) (ed_neg ed_c) rfl) eda_nil) ⟨n, by omega, rfl, rfl⟩) eda_nil)) (by simp)) (hidR_rd hidL_far)) (by simp [rdR, RdA.as]) (rd_app_far (by omega))
    · refine em_of (ed_is (ed_call (eda_cons (ed_ixT (ed_ixL (K := K) (ed_fld (ed_var (i := 0) (d := dRdr K a { st with far := st.far ++ [(((i : Int), (j : Int)), (n : Int))] })) (fd_Reader_own_far T)) (ed_neg ed_c) (at_lastF (q := (((i : Int), (j : Int)), (n : Int))) (by simp))) ed_c rfl) (eda_cons ed_c (eda_cons ed_c eda_nil))) ⟨_, _, _, rfl, rfl⟩) ?_) rd_env hidr_V
      rw [decide_eq_true (show (1 : Int) ≤ (n : Int) by omega), decide_eq_true (show (n : Int) ≤ 9999 by omega)]
      rfl

/-! Reader.take -/
def R_Reader_take (K : PySem.W.Frag) : List Dt → Rg → Rg → Dt → Prop := fun ds r r2 d => ∃ a : RdA, ∃ st : RSt, ∃ st2 : RSt, ∃ ws : List Str, (Step st ws st2) ∧ (∀ w ∈ ws, 32 ∉ TL.tl w) ∧ ((Txt.join (" " : Str) ws).length ≤ 10000) ∧ ds = [dV (.ref a.p), dS (Txt.join (" " : Str) ws)] ∧ r = rdR K a st ∧ r2 = rdR K a st2 ∧ d = dB true
abbrev N_Reader_take : List Str := ["self", "line", "words"]
theorem sc_Reader_take : FnScope N_Reader_take ["self", "line"] (defScope s_Reader_take) := ⟨rfl, rfl, rfl, by decide +kernel, rfl, by decide +kernel, by decide +kernel⟩
theorem fn_Reader_take (T : Tx w K mg) : Mt0 P w K mg base 6 "Reader" "take" ["self", "line"] (spM (R_Reader_take K)) := by
  obtain ⟨fd, F⟩ := T.f_Reader_take
  have nd := sc_Reader_take.nd
  refine mk_mt T.me_Reader_take (fn_M F sc_Reader_take (by rintro _ _ _ _ ⟨a, st, st2, ws, c0, c1, c2, rfl, rfl, rfl, rfl⟩; rfl) (fun cdv A outer s H E hr => ?_)) (F.bindsN fun _ _ _ _ _ _ us hl => match us, hl with | [_, _], _ => rfl)
  have hu := hu_of hr
  have hu65 := hu65 hr
  refine ⟨_, (pss_cons (ps_set (i := 2) nd rfl (Or.inl rfl) (pe_split (pv 1) pe_str)) (pss_cons (ps_if (pt_cmpR (opK_notIn K) (pe_ix (ixK_list K) (pv 2) pe_int (fun _ _ => rfl)) (pe_ix (ixK_kd K w) (pe_gref T.g_BEHIND) (pe_fldK K (pv 0)) (fun _ _ => rfl)) (by rfl)) (pss_one (ps_ret pe_bl)) pss_nil) (pss_cons (ps_fldK K (pv 0) (pe_ix (ixK_list K) (pv 2) pe_int (fun _ _ => rfl))) (pss_cons (ps_match (pe_ix (ixK_list K) (pv 2) pe_int (fun _ _ => rfl)) (mc_cons (pss_one (ps_ret (pe_methF (fn_Reader_take_zooms T) T.cl_Reader (hr.mono (by decide)) (pv 0) (pa_cons (pv 2) pa_nil)))) (mc_cons (pss_one (ps_ret (pe_methF (fn_Reader_take_class T) T.cl_Reader hr (pv 0) (pa_cons (pv 2) pa_nil)))) (mc_cons (pss_one (ps_ret (pe_methF (fn_Reader_take_beside T) T.cl_Reader (hr.mono (by decide)) (pv 0) (pa_cons (pv 2) pa_nil)))) mc_nil)))) (pss_one (ps_ret (pe_methF (fn_Reader_take_far T) T.cl_Reader (hr.mono (by decide)) (pv 0) (pa_cons (pv 2) pa_nil)))))))), ?_⟩
  rintro _ _ _ _ ⟨a, st, st2, ws, c0, c1, c2, rfl, rfl, rfl, rfl⟩
  have hx : ∃ (w0 : Str) (wr row : List Str), ws = w0 :: wr ∧ (st.sort, row) ∈ bhRows ∧ w0 ∈ row := by
    cases c0 with
    | zooms h hn => exact ⟨_, _, ["zooms"], rfl, by rw [h]; simp [bhRows], by simp⟩
    | cls h h1 h2 h3 =>
      rcases h with h | h
      · exact ⟨_, _, ["class"], rfl, by rw [h]; simp [bhRows], by simp⟩
      · exact ⟨_, _, ["class", "beside", "far"], rfl, by rw [h]; simp [bhRows], by simp⟩
    | bes h h1 h2 h3 h4 =>
      rcases h with h | h
      · exact ⟨_, _, ["class", "beside", "far"], rfl, by rw [h]; simp [bhRows], by simp⟩
      · exact ⟨_, _, ["beside", "far"], rfl, by rw [h]; simp [bhRows], by simp⟩
    | far h h1 h2 h3 h4 h5 =>
      rcases h with h | h | h
      · exact ⟨_, _, ["class", "beside", "far"], rfl, by rw [h]; simp [bhRows], by simp⟩
      · exact ⟨_, _, ["beside", "far"], rfl, by rw [h]; simp [bhRows], by simp⟩
      · exact ⟨_, _, ["far"], rfl, by rw [h]; simp [bhRows], by simp⟩
  obtain ⟨w0, wr, row, hws, hrow, hmem⟩ := hx
  have hsp : Txt.split (Txt.join (" " : Str) ws) " " = ws := TL.split_join (s := 32) (S := []) (by decide +kernel) (by decide +kernel) (by rw [hws]; simp) c1
  refine sm_seq rfl (sm_set rfl (em_split (K := K) em_var (by decide +kernel) c2 hsp)) ?_
  refine sm_ifR rfl (tm_of (td_test (ed_notinTS (ed_ixL (K := K) ed_var ed_c (at_head hws)) (ed_beh T (ed_fld ed_var (fd_Reader_own_sort T)) hrow))) rd_env) (fun hb => ?_) (fun _ => ?_)
  · rw [decide_eq_true hmem] at hb
    exact absurd hb (by decide)
  refine sm_seqS (r1 := rdR K a { st with sort := w0 }) rfl (sm_fld (rd_sort T) ok_var0 (em_e (ed_ixL (K := K) (ed_var (i := 2)) ed_c (at_head hws)) hidr_V) (by simp [rdR, RdA.as])) ?_
  cases c0 with
  | zooms h hn =>
    cases hws
    exact sm_seqR (sm_match (em_e (ed_ixL (K := K) (ed_var (i := 2)) ed_c (atI_in (by decide) rfl)) hidr_V) (sm_hit rfl (sm_ret (em_meth rfl em_var (rd_ins (by kernel_rfl)) (ema_cons rfl em_var ema_nil) ⟨a, { st with sort := "zooms" }, _, hn, rfl, rfl, rfl, rfl⟩))))
  | cls h h1 h2 h3 =>
    cases hws
    exact sm_seqR (sm_match (em_e (ed_ixL (K := K) (ed_var (i := 2)) ed_c (atI_in (by decide) rfl)) hidr_V) (sm_miss (by decide +kernel) (sm_hit rfl (sm_ret (em_meth rfl em_var (rd_ins (by kernel_rfl)) (ema_cons rfl em_var ema_nil) ⟨a, { st with sort := "class" }, _, h1, h2, h3, rfl, rfl, rfl, rfl⟩)))))
  | bes h h1 h2 h3 h4 =>
    cases hws
    exact sm_seqR (sm_match (em_e (ed_ixL (K := K) (ed_var (i := 2)) ed_c (atI_in (by decide) rfl)) hidr_V) (sm_miss (by decide +kernel) (sm_miss (by decide +kernel) (sm_hit rfl (sm_ret (em_meth rfl em_var (rd_ins (by kernel_rfl)) (ema_cons rfl em_var ema_nil) ⟨a, { st with sort := "beside" }, _, _, _, _, h1, h2, h3, h4, rfl, rfl, rfl, rfl⟩))))))
  | far h h1 h2 h3 h4 h5 =>
    cases hws
    exact sm_seqS rfl (sm_match (em_e (ed_ixL (K := K) (ed_var (i := 2)) ed_c (atI_in (by decide) rfl)) hidr_V) (sm_miss (by decide +kernel) (sm_miss (by decide +kernel) (sm_miss (by decide +kernel) sm_next)))) (sm_ret (em_meth rfl em_var (rd_ins (by kernel_rfl)) (ema_cons rfl em_var ema_nil) ⟨a, { st with sort := "far" }, _, _, _, _, _, h1, h2, h3, h4, h5, rfl, rfl, rfl, rfl⟩))

end
end Sl
/-! Sl20: Reader.__init__, read_style. -/
namespace Sl
open PySem PySem.Spec PyProof.Rows L2 StX RZ
open Evl (Ex ex_l ex_t ex_rd sq_of st_of sz_of sz_lt fresh_back)
local macro_rules | `(tactic| walk_at "sd") => `(tactic| first | assumption | omega | decide | (constructor <;> assumption) | (constructor <;> omega))
section
variable {P : Program} {w : World} {K : PySem.W.Frag} {mg : Str → Option Value} {base : Heap}
theorem fld_c {C : Addr} {H : Hp} {a dx : Addr} {fs : List (Str × V)} {σ : L2.St} {f : Str} {D : Ends} {v : V} {m : Nat} (hs : σ[0]? = some (some (.ref a))) (hat : H a = some (.ins C dx fs)) (c : Cls K C) (n : NoAttr K C f) (hl : fs.length < m)
    (k : D.nx σ (upd H a (.ins C dx (putF f v fs)))) (hm : m ≤ 1000 := by decide) : sFld K (tVar 0) (tC v) f D σ H := ⟨.ref a, hs, a, C, dx, fs, rfl, hat, c, n, Nat.lt_of_lt_of_le hl hm, k⟩
theorem fld_l {C : Addr} {H : Hp} {a dx : Addr} {fs : List (Str × V)} {σ : L2.St} {f : Str} {D : Ends} {m : Nat} (hs : σ[0]? = some (some (.ref a))) (hat : H a = some (.ins C dx fs)) (c : Cls K C) (n : NoAttr K C f) (hl : fs.length < m)
    (k : ∀ p, H p = none → D.nx σ (upd (upd H p (.lst [])) a (.ins C dx (putF f (.ref p) fs)))) (hm : m ≤ 1000 := by decide) : sFld K (tVar 0) (tLst tNil) f D σ H := ⟨by show 0 ≤ _; omega, fun p hp => ⟨.ref a, hs, a, C, dx, fs, rfl, by
    rw [upd_ne fun e => by rw [e, hp] at hat; cases hat]
    exact hat, c, n, Nat.lt_of_lt_of_le hl hm, k p hp⟩⟩
def st0 : RSt := ⟨"", 0, [], [], []⟩
def spRd (K : PySem.W.Frag) : Sp := fun vs H Q _ => ∃ B a dx, vs = [.ref a] ∧ B a = none ∧ H = upd B a (.ins (He.ga K "Reader") dx []) ∧ ∀ (ad : RdA) H', ad.p = a → (rdR K ad st0).J H' → Ex B (hideL ad.as H') → Q .non H'
abbrev N_Reader_init : List Str := ["self"]
theorem sc_Reader_init : FnScope N_Reader_init ["self"] (defScope s_Reader_init) := ⟨rfl, rfl, rfl, by decide +kernel, rfl, by decide +kernel, by decide +kernel⟩
theorem fn_Reader_init (T : Tx w K mg) : Ini P w K mg base 1 "Reader" ["self"] [] (spRd K) := by
  obtain ⟨fd, F⟩ := T.f_Reader_init
  have nd := sc_Reader_init.nd
  refine mk_in T.g_Reader T.mk_Reader (F.ok sc_Reader_init (fun vs H Q E ⟨B, a, dx, h, _⟩ => by rw [h]; rfl) (fun cdv A outer s H vs Q E hr hsp => ?_)) (F.bindsN fun _ _ _ _ _ _ us hl => match us, hl with | [_], _ => rfl) .nil
  refine ⟨_, (pss_cons (ps_fldK K (pv 0) pe_str) (pss_cons (ps_fldK K (pv 0) pe_int) (pss_cons (ps_fldK K (pv 0) (pe_lst pa_nil)) (pss_cons (ps_fldK K (pv 0) (pe_lst pa_nil)) (pss_one (ps_fldK K (pv 0) (pe_lst pa_nil))))))), ?_⟩
  obtain ⟨B, a, dx, rfl, hB, rfl, q⟩ := hsp
  refine fld_c (a := a) rfl upd_same T.cl_Reader T.na_Reader_own_sort L0 ?_
  refine fld_c (a := a) rfl upd_same T.cl_Reader T.na_Reader_own_last (pl L0) ?_
  refine fld_l (a := a) rfl upd_same T.cl_Reader T.na_Reader_own_rows (pl (pl L0)) fun p1 h1 => ?_
  refine fld_l (a := a) rfl upd_same T.cl_Reader T.na_Reader_own_beside (pl (pl (pl L0))) fun p2 h2 => ?_
  refine fld_l (a := a) rfl upd_same T.cl_Reader T.na_Reader_own_far (pl (pl (pl (pl L0)))) fun p3 h3 => ?_
  have a1 : a ≠ p1 := fun e => by rw [← e, upd_same] at h1; cases h1
  have a2 : a ≠ p2 := fun e => by rw [← e, upd_same] at h2; cases h2
  have a3 : a ≠ p3 := fun e => by rw [← e, upd_same] at h3; cases h3
  have b12 : p1 ≠ p2 := fun e => by rw [← e, upd_ne a1.symm, upd_same] at h2; cases h2
  have b13 : p1 ≠ p3 := fun e => by rw [← e, upd_ne a1.symm, upd_ne b12, upd_ne a1.symm, upd_same] at h3; cases h3
  have b23 : p2 ≠ p3 := fun e => by rw [← e, upd_ne a2.symm, upd_same] at h3; cases h3
  rw [upd_ne a1.symm, upd_ne a1.symm, upd_ne a1.symm] at h1
  rw [upd_ne a2.symm, upd_ne b12.symm, upd_ne a2.symm, upd_ne a2.symm, upd_ne a2.symm] at h2
  rw [upd_ne a3.symm, upd_ne b23.symm, upd_ne a3.symm, upd_ne b13.symm, upd_ne a3.symm, upd_ne a3.symm, upd_ne a3.symm] at h3
  have hf : putF "own_far" (V.ref p3) (putF "own_beside" (V.ref p2) (putF "own_rows" (V.ref p1) (putF "own_last" (V.int 0) (putF "own_sort" (V.str "") [])))) = rdrF ⟨a, p1, p2, p3, a1, a2, a3, b12, b13, b23⟩ st0 := by kernel_rfl
  rw [hf]
  generalize putF "own_beside" (V.ref p2) (putF "own_rows" (V.ref p1) (putF "own_last" (V.int 0) (putF "own_sort" (V.str "") []))) = f4
  generalize putF "own_rows" (V.ref p1) (putF "own_last" (V.int 0) (putF "own_sort" (V.str "") [])) = f3
  generalize putF "own_last" (V.int 0) (putF "own_sort" (V.str "") []) = f2
  generalize putF "own_sort" (V.str "") [] = f1
  refine q ⟨a, p1, p2, p3, a1, a2, a3, b12, b13, b23⟩ _ rfl ⟨dx, [], [], [], ⟨upd_same, ?_, ?_, ?_, True.intro, True.intro, True.intro⟩⟩ fun b o hb => ?_
  · rw [upd_ne a1.symm, upd_ne b13, upd_ne a1.symm, upd_ne b12, upd_ne a1.symm, upd_same]
  · rw [upd_ne a2.symm, upd_ne b23, upd_ne a2.symm, upd_same]
  · rw [upd_ne a3.symm, upd_same]
  · have c0 : b ≠ a := fun e => by rw [e, hB] at hb; cases hb
    have c1 : b ≠ p1 := fun e => by rw [e, h1] at hb; cases hb
    have c2 : b ≠ p2 := fun e => by rw [e, h2] at hb; cases hb
    have c3 : b ≠ p3 := fun e => by rw [e, h3] at hb; cases hb
    rw [hideL_at (by simp [RdA.as, c0, c1, c2, c3])]
    rw [upd_ne c0, upd_ne c3, upd_ne c0, upd_ne c2, upd_ne c0, upd_ne c1, upd_ne c0, upd_ne c0, upd_ne c0]
    exact hb
def dRdX (K : PySem.W.Frag) (st : RSt) : Dt := ⟨fun H v => ∃ ad, (dRdr K ad st).P H v, fun e ⟨ad, h⟩ => ⟨ad, Dt.mono _ e h⟩⟩
abbrev rSpl : V → List V → Hp → VK → Prop := fun x xs H Q => ∃ a b, x = .str a ∧ xs = [.str b] ∧ (b.length == 0) = false ∧ a.length + 2 ≤ sizeLine ∧ rNewStrs (Txt.split a b) H Q
theorem sd_reader {E : XK} {rest : TS} {text : Str} {lines : List Str} {st : RSt} (hs : Txt.split text "\n" = lines) (hl : text.length ≤ 20000)
    (h : ∀ ad, Sm (rdR K ad st0) rest [some (dS text), some (dV (.ref ad.p)), some (dLst K (lines.map fun s => dS s)), none, none] (.ret (rdR K ad st) (dV (.ref ad.p)))) :
    Sd (tSeq (tPar 1 2 (tCons (tMake (He.ga K "Reader") (spRd K) [] E tNil) (tCons (tM1 rSpl (tVar 0) (tC (.str "\n"))) tNil))) rest) [some (dS text), none, none, none, none] (.ret (dRdX K st)) := fun H σ D e k => fun x dx hx hdx ne => by
  have hB : upd H dx (.own x) x = none := by rw [upd_ne (Ne.symm ne)]; exact hx
  refine ⟨upd H dx (.own x), x, dx, rfl, hB, rfl, fun ad H' hp j eB => ⟨rfl, ?_⟩⟩
  have e1 : Ex H (hideL ad.as H') := (Ex.new hdx).trans eB
  obtain ⟨v, hv, pv⟩ := e.get (i := 0) (d := dS text) rfl
  have pv' : v = .str text := pv
  subst pv'
  refine ⟨_, hv, ⟨text, rfl⟩, text, "\n", rfl, rfl, by decide +kernel, sz_of (by omega), fun n hn => ?_⟩
  have hna : n ∉ ad.as := fun hm => (rdR K ad st0).live j n hm hn
  rw [hs]
  have e2 : Ex (hideL ad.as H') (hideL ad.as (upd H' n (.lst (lines.map V.str)))) := hideL_mono (Ex.new hn)
  refine ⟨.ref x, .ref n, rfl, h ad _ _ D ⟨(rdR K ad st0).mono (Ex.new hn) j, ?_⟩ fun v H3 j3 e3 p3 => k v H3 (((e1.trans e2).trans e3).trans hideL_ex) ⟨ad, p3, j3⟩⟩
  have en := e.mono (e1.trans e2)
  have p1 : (dV (.ref ad.p)).P (hideL ad.as (upd H' n (.lst (lines.map V.str)))) (.ref x) := by rw [hp]; rfl
  have p2 : (dLst K (lines.map fun s => dS s)).P (hideL ad.as (upd H' n (.lst (lines.map V.str)))) (.ref n) := ⟨n, _, rfl, by rw [hideL_at hna]; exact upd_same, All2.of_vals V.str _⟩
  exact (en.set p1 1).set p2 2
/-! ### a walk in a region -/
def GdM (g : TG) (d : Dt) (ρ ρ1 : Rho) : Prop := ∀ (as : List Addr) (v : V) (H : Hp) (σ : L2.St), d.P (hideL as H) v → EnvOk (hideL as H) ρ σ → ∀ Q : L2.St → Hp → Prop, (∀ σ', EnvOk (hideL as H) ρ1 σ' → Q σ' H) → g v σ H Q
def GdMs (g : TGs) (ds : List Dt) (ρ ρ1 : Rho) : Prop := ∀ (as : List Addr) (vs : List V) (H : Hp) (σ : L2.St), All2 (hideL as H) ds vs → EnvOk (hideL as H) ρ σ → ∀ Q : L2.St → Hp → Prop, (∀ σ', EnvOk (hideL as H) ρ1 σ' → Q σ' H) → g vs σ H Q
section
variable {ρ ρ' ρ1 : Rho} {d : Dt} {ds : List Dt}
theorem gdm_name {j : Nat} : GdM (gName j) d ρ (ρ.set j (some d)) := fun as v H σ p e Q q => q _ (e.set p j)
theorem gdms_nil : GdMs gNil [] ρ ρ := fun as vs H σ p e Q q => by
  cases vs with
  | nil => exact ⟨rfl, q σ e⟩
  | cons _ _ => exact p.elim
theorem gdms_cons {g : TG} {gs : TGs} (h : GdM g d ρ ρ1) (hs : GdMs gs ds ρ1 ρ') : GdMs (gCons g gs) (d :: ds) ρ ρ' := fun as vs H σ p e Q q => by
  cases vs with
  | nil => exact p.elim
  | cons v vs => exact ⟨v, vs, rfl, h as v H σ p.1 e _ fun σ' e' => hs as vs H σ' p.2 e' Q q⟩
theorem gdm_tup {gs : TGs} (h : GdMs gs ds ρ ρ') : GdM (gTup K ds.length gs) (dTup K ds) ρ ρ' := fun as v H σ ⟨p, vs, a, b, c⟩ e Q q =>
  ⟨p, vs, a, ex_t hideL_ex b, c.len.symm, h as vs H σ c e Q q⟩
/-- for i, x in enumerate(a list that stands) -/
theorem sm_forE {g : TG} {s1 : TS} {es : List Dt} {i0 : Nat} (r : Nat → Rg) (as : List Addr) (ha : ∀ i, (r i).as = as) (h : ρ[i0]? = some (some (dLst K es)))
    (hs : ∀ (i : Nat) d, es[i]? = some d → ∃ ρ1, GdM g (dTup K [dI (i : Int), d]) ρ ρ1 ∧ Sm (r i) s1 ρ1 (.nx (r (i + 1)) ρ)) : Sm (r 0) (tFor (iEnum K (tCons (tVar i0) tNil)) g s1) ρ (.nx (r es.length) ρ) := fun H σ D e k => by
  obtain ⟨j0, en⟩ := e
  obtain ⟨v, hv, p, vs, rfl, hp, hall⟩ := en.get h
  rw [ha] at en hp hall
  refine ⟨_, hv, p, vs, rfl, sq_of (hideL_ex _ _ hp), ?_⟩
  have w := walk_enum (K := K) (a := p) (xs := vs)
  have hlen := hall.len
  refine ⟨fun i m σ2 H2 => m = es.length - i ∧ i ≤ es.length ∧ (r i).J H2 ∧ Ex (hideL as H) (hideL as H2) ∧ EnvOk (hideL as H2) ρ σ2, ⟨_, rfl, Nat.zero_le _, j0, Ex.refl _, en⟩, ?_⟩
  rintro i m σ2 H2 ⟨rfl, hi, j2, e2, en2⟩
  have hG : SqL K H2 p vs := sq_of (hideL_ex _ _ (e2 _ _ hp))
  by_cases hlt : i < es.length
  · right
    have hd : es[i]? = some es[i] := List.getElem?_eq_getElem hlt
    refine ⟨w.goes i H2 (by omega) hG, fun σ' H' => (r (i + 1)).J H' ∧ Ex (hideL as H) (hideL as H') ∧ EnvOk (hideL as H') ρ σ', fun σ' H' ⟨a, b, c⟩ => ⟨_, by omega, rfl, hlt, a, b, c⟩, fun x H3 y => ?_⟩
    obtain ⟨T, v1, v2, rfl, hT, rfl, g1, g2⟩ := w.yields i H2 x H3 (by omega) hG y
    have hTa : T ∉ as := fun hm => (r i).live j2 T (by rw [ha]; exact hm) hT
    have e3 : Ex (hideL as H2) (hideL as (upd H2 T (.tup [v1, v2]))) := hideL_mono (Ex.new hT)
    obtain ⟨ρ1, hg, hb⟩ := hs i _ hd
    obtain ⟨u, hu, pu⟩ := (hall.mono (e2.trans e3)).get hd
    have hu2 : u = v2 := by
      have g2' : vs[i]? = some v2 := g2
      rw [hu] at g2'
      exact Option.some.inj g2'
    subst hu2
    have g1' : v1 = .int (i : Nat) := (Option.some.inj g1).symm
    subst g1'
    refine hg as _ _ σ2 ⟨T, [.int (i : Nat), u], rfl, st_of (by rw [hideL_at hTa]; exact upd_same), rfl, pu, True.intro⟩ (en2.mono e3) _ fun σ3 en3 => ?_
    refine hb _ σ3 _ ⟨(r i).mono (Ex.new hT) j2, by rw [ha]; exact en3⟩ fun σ' H' j' e' en' => ?_
    rw [ha] at e' en'
    exact ⟨j', (e2.trans e3).trans e', en'⟩
  · left
    have ei : i = es.length := by omega
    subst ei
    refine ⟨by rw [hlen]; exact w.stops H2 hG, k σ2 H2 j2 (by rw [ha]; exact e2) (by rw [ha]; exact en2)⟩
end
/-! ### lists of unlike length -/
def rEqLen (K : PySem.W.Frag) : R2 := fun x y H Q => ∃ (a b : Addr) (xs ys : List V), x = .ref a ∧ y = .ref b ∧ SqL K H a xs ∧ SqL K H b ys ∧ xs.length ≠ ys.length ∧ Q (.bl false) H
theorem op_eqLen {X : Cx} (hu : X.A.units < cLine) : OpR X (compareOp .Eq) (rEqLen X.K) := by
  intro pins s σ H x y v u Q I rx ry h
  obtain ⟨a, b, xs, ys, rfl, rfl, ha, hb, hn, q⟩ := h
  cases rx
  cases ry
  obtain ⟨its, rv, p1, _⟩ := I.list ha
  obtain ⟨its2, rv2, p2, _⟩ := I.list hb
  have l1 := rv.length
  have l2 := rv2.length
  exact SeqAt.eq_list_lengthsAt p1.isList p2.isList (by simp; omega) hu ⟨.bl false, H, I, rfl, q⟩
theorem opK_eqLen {X : Cx} {A : Around} (K : PySem.W.Frag) (hu : A.units + 1 < cLine) (hX : X.K = K ∧ X.A = A := by exact ⟨rfl, rfl⟩) : OpR X (compareOp .Eq) (rEqLen K) := by
  obtain ⟨rfl, rfl⟩ := hX
  exact op_eqLen (by omega)
theorem ed_eqLen {ρ : Rho} {ta tb : TE} {ds es : List Dt} (ha : Ed ta ρ (dLst K ds)) (hb : Ed tb ρ (dLst K es)) (h : ds.length ≠ es.length) : Ed (tOp (rEqLen K) ta tb) ρ (dB false) := ed_op ha hb fun H u v ⟨p, vs, a1, b1, c1⟩ ⟨q, us, a2, b2, c2⟩ Q k =>
  ⟨p, q, vs, us, a1, a2, sq_of b1, sq_of b2, by rw [← c1.len, ← c2.len]; exact h, k _ H (Ex.refl H) rfl⟩
end
end Sl
namespace Sl
open PySem PySem.Spec PyProof.Rows L2 StX RZ
open Evl (Ex ex_l ex_t ex_rd sq_of st_of sz_of sz_lt fresh_back)
local macro_rules | `(tactic| walk_at "sd") => `(tactic| first | assumption | omega | decide | (constructor <;> assumption) | (constructor <;> omega))
section
variable {P : Program} {w : World} {K : PySem.W.Frag} {mg : Str → Option Value} {base : Heap}

structure Reads0 (text : Str) (lines : List (List Str)) (f : Nat → RSt) : Prop where
  h0 : f 0 = st0
  step : ∀ (i : Nat) ws, lines[i]? = some ws → Step (f i) ws (f (i + 1)) ∧ (∀ w ∈ ws, 32 ∉ TL.tl w) ∧ (Txt.join (" " : Str) ws).length ≤ 10000 ∧ 10 ∉ TL.tl (Txt.join (" " : Str) ws)
  rows : (f lines.length).rows ≠ []
  some_ : lines ≠ []
  text_ : text = Txt.join ("\n" : Str) (lines.map fun ws => Txt.join (" " : Str) ws)
  len : text.length ≤ 20000
theorem tm_B {r r' : Rg} {ρ : Rho} {te : TE} {a : Bool} (h : Em r r' te ρ (dB a)) : Tm r r' (tB te) ρ a := fun H σ e Q q => h H σ e _ fun v H1 j1 e1 p => ⟨a, p, q H1 j1 e1⟩
theorem tm_not {r r' : Rg} {ρ : Rho} {t : TT} {a : Bool} (h : Tm r r' t ρ a) : Tm r r' (tNot t) ρ (!a) := fun H σ e _ q => h H σ e _ fun H1 j1 e1 => q H1 j1 e1
theorem rd_envI {a : RdA} {st : RSt} {ρ : Rho} {i : Nat} (h : ρ[i]? = some (some (dV (.ref a.p)))) : ∀ H σ, (rdR K a st).Ok H ρ σ → EnvOk H (ρ.set i (some (dRdr K a st))) σ := fun H σ e => by
  obtain ⟨v, h1, h2⟩ := e.2.get h
  have h2' : v = .ref a.p := h2
  subst h2'
  exact envok_ext h1 ⟨rfl, e.1⟩ (e.2.mono hideL_ex)

/-! read_style -/
def R_read_style (K : PySem.W.Frag) : List Dt → Dt → Prop := fun ds d => ∃ text : Str, ∃ lines : List (List Str), ∃ f : Nat→RSt, (Reads0 text lines f) ∧ ds = [dS text] ∧ d = dRdX K (f lines.length)
abbrev N_read_style : List Str := ["text", "reader", "lines", "at", "line"]
theorem sc_read_style : FnScope N_read_style ["text"] (defScope s_read_style) := ⟨rfl, rfl, rfl, by decide +kernel, rfl, by decide +kernel, by decide +kernel⟩
theorem fn_read_style (T : Tx w K mg) : Fn0 P w K mg base 7 "read_style" ["text"] (spP (R_read_style K)) := by
  obtain ⟨fd, F⟩ := T.f_read_style
  have nd := sc_read_style.nd
  refine mk_fn T.g_read_style F.kp (fn_pure F sc_read_style (by rintro _ _ ⟨text, lines, f, c0, rfl, rfl⟩; rfl) (fun cdv A outer s H E hr => ?_)) (F.bindsN fun _ _ _ _ _ _ us hl => match us, hl with | [_], _ => rfl)
  have hu := hu_of hr
  have hu65 := hu65 hr
  refine ⟨_, (pss_cons (ps_if (pt_not (pt_val (pe_bi (crK_isi K) T.b_isinstance (by decide +kernel) (pa_cons (pv 0) (pa_cons (pe_gty (n := "str") T.b_str (by decide +kernel)) pa_nil))))) (pss_one ps_never) pss_nil) (pss_cons (ps_par (i := 1) (j := 2) (by rfl) nd rfl rfl (by decide) rfl rfl (pa_cons (pe_makeF0 (fn_Reader_init T) (hr.mono (by decide))) (pa_cons (pe_split (pv 0) pe_str) pa_nil)) (by rfl)) (pss_cons (ps_for PassesOwn.never rfl (pi_enumK K T.b_enumerate (pa_cons (pv 2) pa_nil)) (pg_tupK K (n := 2) (pgs_cons (pg_name (i := 3) nd rfl (Or.inl rfl)) (pgs_cons (pg_name (i := 4) nd rfl (Or.inl rfl)) pgs_nil))) (pss_one (ps_if (pt_not (pt_val (pe_methF (fn_Reader_take T) T.cl_Reader hr (pv 1) (pa_cons (pv 4) pa_nil)))) (pss_one ps_never) pss_nil))) (pss_cons (ps_if (pt_cmpR (opK_eqLen K hu) (pe_fldK K (pv 1)) (pe_lst pa_nil) (nomark _)) (pss_one ps_never) pss_nil) (pss_one (ps_ret (pv 1))))))), ?_⟩
  rintro _ _ ⟨text, lines, f, c0, rfl, rfl⟩
  obtain ⟨h0, hstep, hne, hl1, rfl, hl2⟩ := c0
  refine sd_ifR (td_not (td_B (ed_cb (eda_cons ed_var (eda_cons ed_c eda_nil)) (cd_isi tyd_S (by decide +kernel) (a := true))))) (fun hb => absurd hb (by decide)) (fun _ => ?_)
  have hsp : Txt.split (Txt.join ("
" : Str) (lines.map fun ws => Txt.join (" " : Str) ws)) "
" = lines.map fun ws => Txt.join (" " : Str) ws := TL.split_join (s := 10) (S := []) (by decide +kernel) (by decide +kernel) (by simpa using hl1) (fun p hp => by
    obtain ⟨ws, hws, rfl⟩ := List.mem_map.mp hp
    obtain ⟨i, hi⟩ := List.getElem?_of_mem hws
    exact (hstep i ws hi).2.2.2)
  refine sd_reader hsp hl2 fun ad => ?_
  have hfor := sm_forE (K := K) (ρ := [some (dS (Txt.join ("
" : Str) (lines.map fun ws => Txt.join (" " : Str) ws))), some (dV (.ref ad.p)), some (dLst K ((lines.map fun ws => Txt.join (" " : Str) ws).map fun s => dS s)), none, none]) (i0 := 2) (g := gTup K 2 (gCons (gName 3) (gCons (gName 4) gNil))) (s1 := tIfS (tNot (tB (tMeth (He.ga K "Reader") "take" (spM (R_Reader_take K)) [] E0 (tVar 1) (tCons (tVar 4) tNil)))) tNever tNext) (fun i => rdR K ad (f i)) ad.as (fun _ => rfl) rfl (fun i d hd => by
    rw [List.map_map, List.getElem?_map] at hd
    cases hws : lines[i]? with
    | none =>
      rw [hws] at hd
      cases hd
    | some ws =>
      rw [hws] at hd
      cases hd
      obtain ⟨s1, s2, s3, s4⟩ := hstep i ws hws
      refine ⟨_, gdm_tup (gdms_cons gdm_name (gdms_cons gdm_name gdms_nil)), sm_wk rfl (sm_if (r1 := rdR K ad (f (i + 1))) rfl (tm_not (tm_B (em_meth rfl em_var (rd_ins (by kernel_rfl)) (ema_cons rfl em_var ema_nil) ⟨ad, f i, f (i + 1), ws, s1, s2, s3, rfl, rfl, rfl, rfl⟩))) (fun hb => absurd hb (by decide)) (fun _ => sm_next)) (wk_c (wk_c (wk_c (wk_n (wk_n wk_0)))))⟩)
  rw [List.length_map, List.length_map, h0] at hfor
  refine sm_seq (r1 := rdR K ad (f lines.length)) rfl hfor ?_
  refine sm_ifR rfl (tm_of (td_test (ed_eqLen (K := K) (ed_fld (ed_var (i := 1)) (fd_Reader_own_rows T)) (ed_lst eda_nil (by simp)) (by simpa using hne))) (rd_envI (i := 1) rfl)) (fun hb => absurd hb (by decide)) (fun _ => sm_ret em_var)

end
end Sl
/-! Sl22: dict comprehensions; Style.__init__. -/
namespace Sl
open PySem PySem.Spec PyProof.Rows L2 StX RZ
open Evl (Ex ex_l ex_t ex_rd sq_of st_of sz_of sz_lt fresh_back)
section
variable {K : PySem.W.Frag} {ρ ρ1 : Rho} {tk tv te : TE} {d : Dt}
def dictW : HO → Prop := fun o => ∃ kvs, o = .dK kvs
theorem dictW_nt : NoTup dictW := fun o ⟨kvs, h⟩ => by
  subst h
  exact ⟨(fun _ e => nomatch e), (fun _ _ e => nomatch e)⟩
/-- {k: v for .. in ..} over names, all unlike -/
theorem ed_dc {α : Type} {wi : TI} {g : TG} {vs js : List Nat} (xs : List α) (φ : α → Dt) (κ : α → Str) (ψ : α → Dt) (hw : Wd wi ρ (xs.map φ)) (hz : xs.length ≤ 40000) (hj : ∀ j ∈ js, j ∈ vs) (hi : ∀ a ∈ xs, HidW dictW (ψ a)) (nd : (xs.map κ).Nodup)
    (ht : ∀ a ∈ xs, ∃ ρ1, Gd g (φ a) js (wpR ρ vs) ρ1 ∧ Ed tk ρ1 (dS (κ a)) ∧ Ed tv ρ1 (ψ a)) : Ed (tDc wi g tYes tk tv vs) ρ (dDKn (xs.map fun a => (κ a, ψ a))) := fun H σ e Q q => hw H σ e _ fun J H1 e1 ok D hD => by
  have hexD : ∀ {H2 : Hp}, Ex H1 (hide D H2) → Ex H1 H2 := fun e2 => e2.trans hide_ex
  refine ⟨fun i m H2 => m = xs.length - i ∧ i ≤ xs.length ∧ Ex H1 (hide D H2) ∧ ∃ kvs, H2 D = some (.dK kvs) ∧ kvs.map (·.1) = (xs.take i).map (fun a => (Sum.inr (κ a) : Key)) ∧ All2 (hide D H2) ((xs.take i).map ψ) (kvs.map (·.2)), ⟨_, rfl, Nat.zero_le _, by rw [hide_upd, hide_self hD]; exact Ex.refl _, [], upd_same, rfl, True.intro⟩, ?_⟩
  rintro i m H2 ⟨rfl, hi2, e2, kvs, hkv, hk, hall⟩
  by_cases hlt : i < xs.length
  · right
    have hx : xs[i]? = some xs[i] := List.getElem?_eq_getElem hlt
    have hφ : (xs.map φ)[i]? = some (φ xs[i]) := by rw [List.getElem?_map, hx]; rfl
    have hm : xs[i] ∈ xs := List.getElem_mem hlt
    obtain ⟨go, yl⟩ := (ok i H2 (hexD e2)).1 _ hφ
    refine ⟨go, fun H' => i + 1 ≤ xs.length ∧ Ex H1 (hide D H') ∧ ∃ kvs, H' D = some (.dK kvs) ∧ kvs.map (·.1) = (xs.take (i + 1)).map (fun a => (Sum.inr (κ a) : Key)) ∧ All2 (hide D H') ((xs.take (i + 1)).map ψ) (kvs.map (·.2)), fun H' ⟨h1, h2, h3⟩ => ⟨xs.length - (i + 1), by omega, rfl, h1, h2, h3⟩, fun x H3 y => ?_⟩
    obtain ⟨e3, px⟩ := yl x H3 y
    obtain ⟨ρ1, hg, hek, hev⟩ := ht _ hm
    have etake : xs.take (i + 1) = xs.take i ++ [xs[i]] := by rw [List.take_add_one, hx]; rfl
    refine hg x H3 (L2.wipe σ vs) px (((e.mono e1).mono ((hexD e2).trans e3)).wipe vs) _ fun σ2 en w2 => ⟨?_, ?_⟩
    · rw [w2 vs hj]
      exact ed_lc.wipe_wipe xs
    · refine td_yes H3 σ2 en _ fun H3' e3' => ?_
      rw [if_pos rfl]
      replace e3 := e3.trans e3'
      refine hek H3' σ2 (en.mono e3') _ fun yv H4 e4 py => hev H4 σ2 ((en.mono e3').mono e4) _ fun zv H5 e5 pz => ?_
      have py' : yv = .str (κ xs[i]) := py
      subst py'
      have e25 := (e3.trans e4).trans e5
      have h5 := e25 D _ hkv
      have hnot : (Sum.inr (κ xs[i]) : Key) ∉ kvs.map (·.1) := fun hmem => by
        rw [hk] at hmem
        obtain ⟨b, hb, he⟩ := List.mem_map.mp hmem
        obtain ⟨j, hjb⟩ := List.getElem?_of_mem hb
        have hji : j < i := by
          have := (List.getElem?_eq_some_iff.mp hjb).1
          rw [List.length_take] at this
          omega
        have hjx : xs[j]? = some b := by rw [List.getElem?_take_of_lt hji] at hjb; exact hjb
        have h1 : (xs.map κ)[j]? = some (κ b) := by rw [List.getElem?_map, hjx]; rfl
        have h2 : (xs.map κ)[i]? = some (κ b) := by rw [List.getElem?_map, hx]; exact congrArg some (Sum.inr.inj he).symm
        obtain ⟨l1, g1⟩ := List.getElem?_eq_some_iff.mp h1
        obtain ⟨l2, g2⟩ := List.getElem?_eq_some_iff.mp h2
        have := (List.getElem_inj (h₀ := l1) (h₁ := l2) nd).mp (g1.trans g2.symm)
        omega
      have hlen : kvs.length = i := by
        have := congrArg List.length hk
        rw [List.length_map, List.length_map, List.length_take] at this
        omega
      have hh : hide D (upd H5 D (.dK (putK kvs (Sum.inr (κ xs[i])) zv))) = hide D H5 := hide_upd
      refine ⟨kvs, Sum.inr (κ xs[i]), rfl, h5, sz_lt (by omega), hlt, ?_, putK kvs (Sum.inr (κ xs[i])) zv, upd_same, ?_, ?_⟩
      · rw [hh]
        exact e2.trans (hide_mono e25)
      · rw [putK_new hnot, List.map_append, hk, etake, List.map_append]
        rfl
      · rw [hh, putK_new hnot, List.map_append, etake, List.map_append]
        exact (hall.mono (hide_mono e25)).app ⟨hi _ hm H5 D _ zv h5 ⟨kvs, rfl⟩ pz, True.intro⟩
  · left
    have ei : i = xs.length := by omega
    subst ei
    rw [List.take_length] at hk hall
    refine ⟨(ok xs.length H2 (hexD e2)).2 (by rw [List.length_map]), q _ H2 (e1.trans (hexD e2)) ⟨D, kvs, rfl, hkv, ?_, ?_⟩⟩
    · rw [hk, List.map_map]
      rfl
    · rw [List.map_map]
      exact hall.mono hide_ex
theorem dkn_ints {l : List (Str × Int)} {H : Hp} {v : V} (h : (dDKn (l.map fun p => (p.1, dI p.2))).P H v) : (dDK (l.map fun p => ((Sum.inr p.1 : Key), V.int p.2))).P H v := by
  obtain ⟨a, kvs, h1, h2, h3, h4⟩ := h
  refine ⟨a, h1, ?_⟩
  rw [h2]
  congr 2
  rw [List.map_map] at h3 h4
  have h4' : kvs.map (·.2) = l.map fun p => V.int p.2 := All2.vals (fun p : Str × Int => V.int p.2) h4
  clear h1 h2 h4
  induction l generalizing kvs with
  | nil =>
    cases kvs with
    | nil => rfl
    | cons _ _ => simp at h3
  | cons p l ih =>
    cases kvs with
    | nil => simp at h3
    | cons q kvs =>
      simp only [List.map_cons, List.cons.injEq] at h3 h4'
      rw [List.map_cons, ← ih kvs h3.2 h4'.2]
      congr 1
      exact Prod.ext h3.1 h4'.1
/-! ### what a Reader tells, hidden from an instance being made -/
theorem hide_hideL {a : Addr} {as : List Addr} {H : Hp} : hide a (hideL as H) = hideL as (hide a H) := by
  funext b
  unfold hide hideL
  by_cases h1 : b = a <;> by_cases h2 : b ∈ as <;> simp [h1, h2]
theorem hid_nTupI {W : HO → Prop} (n : NoTup W) {ns : List Int} : HidW W (nTupI ns) := fun H a o v h hw ⟨p, vs, e, b, c⟩ => by
  have : p ≠ a := fun z => by
    rw [z, h] at b
    exact (n o hw).1 _ (Option.some.inj b)
  exact ⟨p, vs, e, by rw [hide_ne this]; exact b, c.hid h hw fun d hd => by
    obtain ⟨m, _, rfl⟩ := List.mem_map.mp hd
    exact hid_V⟩
theorem hid_far {W : HO → Prop} (n : NoTup W) {p : (Int × Int) × Int} : HidW W (farT K p) := hid_tup n fun d hd => by
  simp only [List.mem_cons, List.not_mem_nil, or_false] at hd
  rcases hd with rfl | rfl
  · exact hid_nTupI n
  · exact hid_V
theorem hid_rdx {C dx : Addr} {fs : List (Str × V)} {st : RSt} (h1 : fs.lookup ("own_first" : Str) = none) (h2 : fs.lookup ("own_sort" : Str) = none) : HidW (selfW C dx fs) (dRdX K st) := fun H a o v ho hw ⟨ad, e, dy, vr, vb, vf, j⟩ => by
  have hw' : o = .ins C dx fs := hw
  subst hw'
  have n0 : ad.p ≠ a := fun z => by
    have := j.ip
    rw [z, ho] at this
    cases this
    have h3 : (rdrF ad st).lookup ("own_sort" : Str) = some (.str st.sort) := by kernel_rfl
    rw [h3] at h2
    cases h2
  have nl : ∀ {p : Addr} {xs : List V}, H p = some (.lst xs) → p ≠ a := fun hp z => by
    rw [z, ho] at hp
    cases hp
  have n1 := nl j.ir
  have n2 := nl j.ib
  have n3 := nl j.if_
  have na : a ∉ ad.as := by simp [RdA.as, n0.symm, n1.symm, n2.symm, n3.symm]
  have hoL : hideL ad.as H a = some (.ins C dx fs) := by rw [hideL_at na]; exact ho
  refine ⟨ad, e, dy, vr, vb, vf, ⟨by rw [hide_ne n0]; exact j.ip, by rw [hide_ne n1]; exact j.ir, by rw [hide_ne n2]; exact j.ib, by rw [hide_ne n3]; exact j.if_, ?_, ?_, ?_⟩⟩
  · rw [← hide_hideL]
    exact j.ar.hid hoL hw fun d hd => by
      obtain ⟨c, _, rfl⟩ := List.mem_map.mp hd
      exact hid_row selfW_nt (selfW_nr h1)
  · rw [← hide_hideL]
    exact j.ab.hid hoL hw fun d hd => by
      obtain ⟨c, _, rfl⟩ := List.mem_map.mp hd
      exact hid_tupI selfW_nt
  · rw [← hide_hideL]
    exact j.af.hid hoL hw fun d hd => by
      obtain ⟨c, _, rfl⟩ := List.mem_map.mp hd
      exact hid_far selfW_nt
theorem fdx {st : RSt} {f : Str} {y : Dt} (h : ∀ a, FD K (dRdr K a st) f y) : FD K (dRdX K st) f y := fun H v ⟨ad, p⟩ => h ad H v p
theorem hid_dDK {C dx : Addr} {fs : List (Str × V)} {kvs : List (Key × V)} : HidW (selfW C dx fs) (dDK kvs) := fun H a o v ho hw ⟨p, h1, h2⟩ => by
  have hw' : o = .ins C dx fs := hw
  subst hw'
  exact ⟨p, h1, by rw [hide_ne fun z => by rw [z, ho] at h2; cases h2]; exact h2⟩
theorem hid_dDT {C dx : Addr} {fs : List (Str × V)} {kvs : List (List Key × V)} : HidW (selfW C dx fs) (dDT kvs) := fun H a o v ho hw ⟨p, h1, h2⟩ => by
  have hw' : o = .ins C dx fs := hw
  subst hw'
  exact ⟨p, h1, by rw [hide_ne fun z => by rw [z, ho] at h2; cases h2]; exact h2⟩
end
section
variable {P : Program} {w : World} {K : PySem.W.Frag} {mg : Str → Option Value} {base : Heap}
local macro_rules | `(tactic| walk_at "sd") => `(tactic| first | assumption | omega | decide | (constructor <;> assumption) | (constructor <;> omega))
theorem pe_dcK {X : Cx} {kx vx tg iter : Expr} {scope : Scope} {own : List (Str × Nat)} {pos : Pos} {wi : TI} {g : TG} {tk tv : TE} (hN : X.N.Nodup) (hi : PI X tg iter wi) (ok : BlkOk X.N X.env.scope scope own)
    (hg : ∀ (s : Shared) (H : Hp) (C : Addr) (cl : List (Str × Addr)) (fp : List Addr), PG (X.blk s H scope (compEnvC scope cl C X.env) fp) tg g)
    (hk : ∀ (s : Shared) (H : Hp) (C : Addr) (cl : List (Str × Addr)) (fp : List Addr), PE (X.blk s H scope (compEnvC scope cl C X.env) fp) kx tk)
    (he : ∀ (s : Shared) (H : Hp) (C : Addr) (cl : List (Str × Addr)) (fp : List Addr), PE (X.blk s H scope (compEnvC scope cl C X.env) fp) vx tv) (hc : X.calm = true := by rfl) (hs : ∀ x, foldedSetIterable iter X.env x = pure x := by intro _; rfl) :
    PE X (.DictComp kx vx [⟨tg, iter, [], 0⟩] scope pos) (tDc wi g tYes tk tv (own.map (·.2))) := pe_dc hc hN hi ok hg (fun _ _ _ _ _ => pts_nil) hk he hs
def styOf (text : Str) (st : RSt) : Sty := ⟨text, st.last, st.rows, st.bes, st.far⟩
def spSt (K : PySem.W.Frag) : Sp := fun vs H Q _ => ∃ B a dx text lines f, vs = [.ref a, .str text] ∧ Reads0 text lines f ∧ (styOf text (f lines.length)).Ok ∧ B a = none ∧ H = upd B a (.ins (He.ga K "Style") dx []) ∧
  ∀ H', Ex B H' → (dSty K (styOf text (f lines.length))).P H' (.ref a) → Q .non H'
abbrev N_Style_init : List Str := ["self", "text", "reader", "rank", "row"]
theorem sc_Style_init : FnScope N_Style_init ["self", "text"] (defScope s_Style_init) := ⟨rfl, rfl, rfl, by decide +kernel, rfl, by decide +kernel, by decide +kernel⟩
theorem ed_imp {ρ : Rho} {te : TE} {x y : Dt} (h : Ed te ρ x) (f : ∀ H v, x.P H v → y.P H v) : Ed te ρ y := fun H σ e Q q => h H σ e Q fun v H' e' p => q v H' e' (f H' v p)
theorem zip_names (l : List Row) : (l.zipIdx.map fun p => p.1.name) = l.map Row.name := by
  apply List.ext_getElem?
  intro n
  rw [List.getElem?_map, List.getElem?_map, List.getElem?_zipIdx]
  cases l[n]? <;> rfl
theorem lk0 (f g : Str) (v : V) (fs : List (Str × V)) (hne : (f == g) = false) (h : fs.lookup g = none) : (putF f v fs).lookup g = none := by
  rw [lookup_putF, if_neg fun e => by rw [e] at hne; simp at hne]
  exact h
theorem fn_Style_init (T : Tx w K mg) : Ini P w K mg base 8 "Style" ["self", "text"] [] (spSt K) := by
  obtain ⟨fd, F⟩ := T.f_Style_init
  have nd := sc_Style_init.nd
  refine mk_in T.g_Style T.mk_Style (F.ok sc_Style_init (fun vs H Q E ⟨B, a, dx, text, lines, f, h, _⟩ => by rw [h]; rfl) (fun cdv A outer s H vs Q E hr hsp => ?_)) (F.bindsN fun _ _ _ _ _ _ us hl => match us, hl with | [_, _], _ => rfl) .nil
  have hu := hu_of hr
  have hu65 := hu65 hr
  refine ⟨_, (pss_cons (ps_set (i := 2) nd rfl (Or.inl rfl) (pe_callF (fn_read_style T) hr (pa_cons (pv 1) pa_nil))) (pss_cons (ps_fldK K (pv 0) (pv 1)) (pss_cons (ps_fldK K (pv 0) (pe_fldK K (pv 2))) (pss_cons (ps_fldK K (pv 0) (pe_bt (crK_tuple K) T.b_tuple (by decide +kernel) (pa_cons (pe_fldK K (pv 2)) pa_nil))) (pss_cons (ps_fldK K (pv 0) (pe_dcK (own := [("rank", 3), ("row", 4)]) nd (pi_enumK K T.b_enumerate (pa_cons (pe_fldK K (pv 2)) pa_nil)) (blkOk_by (N := N_Style_init) (sc := defScope s_Style_init) (by decide +kernel)) (fun _ _ _ _ _ => (pg_tupK K (n := 2) (pgs_cons (pg_name (i := 3) nd rfl (Or.inl rfl)) (pgs_cons (pg_name (i := 4) nd rfl (Or.inl rfl)) pgs_nil)))) (fun _ _ _ _ _ => (pe_fldK K (pv 4))) (fun _ _ _ _ _ => (pv 3)))) (pss_cons (ps_fldK K (pv 0) (pe_bt (crK_tuple K) T.b_tuple (by decide +kernel) (pa_cons (pe_fldK K (pv 2)) pa_nil))) (pss_one (ps_fldK K (pv 0) (pe_bt (crK_dictT K hu65) T.b_dict (by decide +kernel) (pa_cons (pe_fldK K (pv 2)) pa_nil)))))))))), ?_⟩
  obtain ⟨B, a, dx, text, lines, f, rfl, hrd, hok, hB, rfl, q⟩ := hsp
  have hst : f lines.length = f lines.length := rfl
  generalize hS : f lines.length = st at hok q
  have e0 : EnvOk B [none, some (dS text), none, none, none] (L2.start N_Style_init [.ref a, .str text]) := ⟨(fun _ h => nomatch h), (fun d h => by cases h; exact ⟨_, rfl, rfl⟩), (fun _ h => nomatch h), (fun _ h => nomatch h), (fun _ h => nomatch h), True.intro⟩
  refine ed_call (eda_cons (ed_var (i := 1) (d := dS text) (ρ := [none, some (dS text), none, none, none])) eda_nil) ⟨text, lines, f, hrd, rfl, rfl⟩ _ _ (e0.mono (Ex.new hB)) _ fun rv H1 e1 p1 => ?_
  rw [hS] at p1
  have hat1 : H1 a = some (.ins (He.ga K "Style") dx []) := e1 _ _ upd_same
  have eB1 : Ex B (hide a H1) := by
    have := hide_mono (a := a) e1
    rw [hide_upd, hide_self hB] at this
    exact this
  have p1h := hid_rdx (C := He.ga K "Style") (dx := dx) (fs := []) rfl rfl H1 a _ rv hat1 rfl p1
  have s1 : Slf (He.ga K "Style") H1 a dx [] [none, some (dS text), some (dRdX K st), none, none] ((L2.start N_Style_init [.ref a, .str text]).set 2 (some rv)) := ⟨rfl, hat1, (e0.mono eB1).set p1h 2⟩
  refine fld_v s1 T.cl_Style T.na_Style_own_text L0 (v := .str text) rfl ?_
  refine fld_w s1.put T.cl_Style T.na_Style_own_last (pl L0) (ed_fld ed_var (fdx fun ad => fd_Reader_own_last T)) (hid_self hid_V) fun v2 H2 s2 e2 p2 => ?_
  refine fld_w s2 T.cl_Style T.na_Style_own_rows (pl (pl L0)) (ed_cb (eda_cons (ed_fld ed_var (fdx fun ad => fd_Reader_own_rows T)) eda_nil) cd_tupL) (hid_self (hid_tup selfW_nt fun d hd => by
    obtain ⟨c, _, rfl⟩ := List.mem_map.mp hd
    exact hid_row selfW_nt (selfW_nr (lk0 _ _ _ _ (by decide +kernel) (lk0 _ _ _ _ (by decide +kernel) rfl))))) fun v3 H3 s3 e3 p3 => ?_
  have hn4 := hok.n4
  refine fld_w s3 T.cl_Style T.na_Style_own_ranks (pl (pl (pl L0))) (d := dDK (ranksOf (styOf text st))) (ed_imp (ed_dc st.rows.zipIdx (fun p => dTup K [dI (p.2 : Int), dRow K p.1]) (fun p => p.1.name) (fun p => dI (p.2 : Int)) (wd_is (wd_enumL (eda_cons (ed_fld ed_var (fdx fun ad => fd_Reader_own_rows T)) eda_nil)) (by unfold numbered; rw [List.zipIdx_map, List.map_map]; rfl)) (by simp; have : st.rows.length ≤ 4 := hn4; omega) (by decide) (fun _ _ => hid_V) (by rw [zip_names]; exact hok.nd) fun p hp => ⟨_, gd_tup (gds_cons gd_name (gds_cons gd_name gds_nil)), (ed_fld ed_var (fd_Row_own_name T)), ed_var⟩) fun H v h => by
      have := dkn_ints (l := st.rows.zipIdx.map fun p => (p.1.name, (p.2 : Int))) (H := H) (v := v) (by rw [List.map_map]; exact h)
      rw [List.map_map] at this
      exact this) (hid_self hid_dDK) fun v4 H4 s4 e4 p4 => ?_
  refine fld_w s4 T.cl_Style T.na_Style_own_beside (pl (pl (pl (pl L0)))) (ed_cb (eda_cons (ed_fld ed_var (fdx fun ad => fd_Reader_own_beside T)) eda_nil) cd_tupL) (hid_self (hid_tup selfW_nt fun d hd => by
    obtain ⟨c, _, rfl⟩ := List.mem_map.mp hd
    exact hid_tupI selfW_nt)) fun v5 H5 s5 e5 p5 => ?_
  refine fld_w s5 T.cl_Style T.na_Style_own_far (pl (pl (pl (pl (pl L0))))) (ed_cb (eda_cons (ed_fld ed_var (fdx fun ad => fd_Reader_own_far T)) eda_nil) (cd_dictT hok.fk hok.fl)) (hid_self hid_dDT) fun v6 H6 s6 e6 p6 => ?_
  have p2' : v2 = .int st.last := p2
  subst p2'
  have q3 := Dt.mono _ (((e4.trans e5).trans e6).trans hide_ex) p3
  have q4 := Dt.mono _ ((e5.trans e6).trans hide_ex) p4
  have q5 := Dt.mono _ (e6.trans hide_ex) p5
  have q6 := Dt.mono _ hide_ex p6
  obtain ⟨rs, vs3, rfl, g3, g3'⟩ := id q3
  obtain ⟨rk, rfl, g4⟩ := id q4
  obtain ⟨bs, vs5, rfl, g5, g5'⟩ := id q5
  obtain ⟨fr, rfl, g6⟩ := id q6
  have hf : putF "own_far" (V.ref fr) (putF "own_beside" (V.ref bs) (putF "own_ranks" (V.ref rk) (putF "own_rows" (V.ref rs) (putF "own_last" (V.int st.last) (putF "own_text" (V.str text) []))))) = styF (styOf text st) rs rk bs fr := by kernel_rfl
  have h6 := s6.at_
  rw [hf] at h6
  have e2' : Ex (hide a H1) (hide a H2) := by
    have := e2
    rw [hide_upd] at this
    exact this
  exact q H6 ((((((eB1.trans e2').trans e3).trans e4).trans e5).trans e6).trans hide_ex) ⟨a, dx, rs, rk, bs, fr, rfl, h6, q3, g4, q5, g6⟩
end
end Sl
namespace Sl
open PySem PySem.Spec PyProof.Rows L2 StX RZ
open Evl (Ex ex_l ex_t ex_rd sq_of st_of sz_of sz_lt fresh_back)
local macro_rules | `(tactic| walk_at "sd") => `(tactic| first | assumption | omega | decide | (constructor <;> assumption) | (constructor <;> omega))
section
variable {P : Program} {w : World} {K : PySem.W.Frag} {mg : Str → Option Value} {base : Heap}

/-! ### the pot -/
def dRng (lo hi : Int) : Dt := ⟨fun _ v => ∃ i : Int, v = .int i ∧ lo ≤ i ∧ i ≤ hi, fun _ h => h⟩
theorem hidL_rng {lo hi : Int} : HidL (dRng lo hi) := fun _ _ _ _ h => h
def potV (p : Addr) (x y z : Int) : Rg where
  as := [p]
  J := fun H => H p = some (.lst [.int x, .int y, .int z])
  mono := fun e h => e _ _ h
  live := fun h b hb => by
    rw [List.mem_singleton.mp hb, h]
    exact fun z => by cases z
def PotOk (x y z : Int) (n : Nat) : Prop := 0 ≤ x ∧ 0 ≤ y ∧ y < 2305843009213693921 ∧ 0 ≤ z ∧ z ≤ (n : Int)
def potR (p : Addr) (n : Nat) : Rg where
  as := [p]
  J := fun H => ∃ x y z, H p = some (.lst [.int x, .int y, .int z]) ∧ PotOk x y z n
  mono := fun e ⟨x, y, z, h1, h2⟩ => ⟨x, y, z, e _ _ h1, h2⟩
  live := fun ⟨x, y, z, h, _⟩ b hb => by
    rw [List.mem_singleton.mp hb, h]
    exact fun z => by cases z
section
variable {r r' r1 r2 : Rg} {ρ : Rho} {te : TE} {t : TS} {d d' : Dt} {o : OutM} {p : Addr} {x y z : Int} {n : Nat}
theorem sm_pre {ι : Type} {rs : ι → Rg} (as : ∀ i, (rs i).as = r.as) (h : ∀ H, r.J H → ∃ i, (rs i).J H ∧ Sm (rs i) t ρ o) : Sm r t ρ o := fun H σ D e k => by
  obtain ⟨i, j, hs⟩ := h H e.1
  exact hs H σ D ⟨j, by rw [as]; exact e.2⟩ (by rw [as]; exact k)
theorem sm_post (hj : ∀ H, r1.J H → r2.J H) (hd : ∀ H v, d.P H v → d'.P H v) (h : Sm r t ρ (.ret r1 d)) : Sm r t ρ (.ret r2 d') := fun H σ D e k => h H σ D e fun v H' j e' p => k v H' (hj H' j) e' (hd _ v p)
theorem pv_env : ∀ H σ, (potV p x y z).Ok H (some (dV (.ref p)) :: ρ) σ → EnvOk H (some (dLst K [dI x, dI y, dI z]) :: ρ) σ := fun H σ e => by
  obtain ⟨j, e2⟩ := e
  have e3 := e2.mono hideL_ex
  cases σ with
  | nil => exact e3.elim
  | cons o σ =>
    refine ⟨fun d hd => ?_, e3.2⟩
    cases hd
    obtain ⟨v, h1, h2⟩ := e3.1 _ rfl
    exact ⟨v, h1, p, _, h2, j, rfl, rfl, rfl, True.intro⟩
/-- pot[k] = e -/
theorem sm_setI {i : Int} {j : Nat} {m x' y' z' : Int} (h : Em (potV p x y z) (potV p x y z) te (some (dV (.ref p)) :: ρ) (dI m)) (hi : ixN 3 i = some j) (he : ([x, y, z] : List Int).set j m = [x', y', z']) : Sm (potV p x y z) (tAsg te (gSub (tVar 0) (tC (.int i)) rSetL)) (some (dV (.ref p)) :: ρ) (.nx (potV p x' y' z') (some (dV (.ref p)) :: ρ)) := fun H σ D e k => h H σ e _ fun v H1 j1 e1 p1 => by
  have p1' : v = .int m := p1
  subst p1'
  have h0 := ok_var0 H σ e
  refine ⟨.ref p, h0, p, _, i, j, rfl, rfl, j1, hi, ?_⟩
  have hs : ([V.int x, V.int y, V.int z] : List V).set j (.int m) = [.int x', .int y', .int z'] := by
    have := congrArg (List.map V.int) he
    rw [List.map_set] at this
    exact this
  rw [hs]
  have hh : hideL [p] (upd H1 p (.lst [.int x', .int y', .int z'])) = hideL [p] H1 := hideL_upd (by simp)
  exact k σ _ upd_same (by show Ex (hideL [p] H) (hideL [p] _); rw [hh]; exact e1) (by show EnvOk (hideL [p] _) _ σ; rw [hh]; exact e.2.mono e1)
theorem ed_pow {ta tb : TE} {i j : Int} (ha : Ed ta ρ (dI i)) (hb : Ed tb ρ (dI j)) (h : CPow i j) : Ed (tOp (rI CPow fun i j => .int (i ^ j.toNat)) ta tb) ρ (dI (i ^ j.toNat)) := ed_op ha hb (rd_I h)
theorem ed_rng {te : TE} {i lo hi : Int} (h : Ed te ρ (dI i)) (h1 : lo ≤ i ∧ i ≤ hi) : Ed te ρ (dRng lo hi) := fun H σ e Q q => h H σ e Q fun v H' e' p => q v H' e' ⟨i, p, h1⟩
theorem prime_at (z : Int) : ∃ pr : Int, 0 < pr ∧ pr < 4294967296 ∧ atI [dI 2147483647, dI 2147483629, dI 2147483587, dI 2147483579, dI 2147483563] (z % 5) = some (dI pr) := by
  have h : z % 5 = 0 ∨ z % 5 = 1 ∨ z % 5 = 2 ∨ z % 5 = 3 ∨ z % 5 = 4 := by omega
  rcases h with h | h | h | h | h
  · exact ⟨2147483647, by decide, by decide, by rw [h]; rfl⟩
  · exact ⟨2147483629, by decide, by decide, by rw [h]; rfl⟩
  · exact ⟨2147483587, by decide, by decide, by rw [h]; rfl⟩
  · exact ⟨2147483579, by decide, by decide, by rw [h]; rfl⟩
  · exact ⟨2147483563, by decide, by decide, by rw [h]; rfl⟩
theorem sq_bd {z : Int} (h0 : 0 ≤ z) (h1 : z ≤ 100000) : 0 ≤ 104707 * z * z ∧ 104707 * z * z ≤ 1047070000000000 := by
  have a1 : 104707 * z ≤ 10470700000 := by omega
  have a2 : 0 ≤ 104707 * z := by omega
  constructor
  · exact Int.mul_nonneg a2 h0
  · calc 104707 * z * z ≤ 10470700000 * z := Int.mul_le_mul_of_nonneg_right a1 h0
      _ ≤ 1047070000000000 := by omega
end

/-! _law_take -/
def R_law_take (K : PySem.W.Frag) : List Dt → Rg → Rg → Dt → Prop := fun ds r r2 d => ∃ p : Addr, ∃ n : Nat, ∃ u : Int, (1 ≤ u ∧ u ≤ 1000000) ∧ (n < 100000) ∧ ds = [dV (.ref p), dI u] ∧ r = potR p n ∧ r2 = potR p (n + 1) ∧ d = dRng 0 (u - 1)
abbrev N_law_take : List Str := ["_law_pot_here", "_law_upto", "_law_digit", "_law_prime", "_law_mixed"]
theorem sc_law_take : FnScope N_law_take ["_law_pot_here", "_law_upto"] (defScope s_law_take) := ⟨rfl, rfl, rfl, by decide +kernel, rfl, by decide +kernel, by decide +kernel⟩
theorem fn_law_take (T : Tx w K mg) : Fn0 P w K mg base 1 "_law_take" ["_law_pot_here", "_law_upto"] (spM (R_law_take K)) := by
  obtain ⟨fd, F⟩ := T.f_law_take
  have nd := sc_law_take.nd
  refine mk_fn T.g_law_take F.kp (fn_M F sc_law_take (by rintro _ _ _ _ ⟨p, n, u, c0, c1, rfl, rfl, rfl, rfl⟩; rfl) (fun cdv A outer s H E hr => ?_)) (F.bindsN fun _ _ _ _ _ _ us hl => match us, hl with | [_, _], _ => rfl)
  have hu := hu_of hr
  have hu65 := hu65 hr
  refine ⟨_, (pss_cons (ps_if (pt_cmpR op_gt (pe_ix (ixK_list K) (pv 0) pe_int (fun _ _ => rfl)) pe_int (nomark _)) (pss_cons (ps_set (i := 2) nd rfl (Or.inl rfl) (pe_op op_mod (pe_bt call_int1 T.b_int (by decide +kernel) (pa_cons (pe_ix (ixK_list K) (pv 0) pe_int (fun _ _ => rfl)) pa_nil)) (pv 1))) (pss_cons (ps_asg (pe_op op_fdiv (pe_ix (ixK_list K) (pv 0) pe_int (fun _ _ => rfl)) (pv 1)) (pg_sub (pv 0) pe_int set_list)) (pss_one (ps_ret (pv 2))))) pss_nil) (pss_cons (ps_asg (pe_op op_add (pe_ix (ixK_list K) (pv 0) pe_int (fun _ _ => rfl)) pe_int) (pg_sub (pv 0) pe_int set_list)) (pss_cons (ps_set (i := 3) nd rfl (Or.inl rfl) (pe_ix (ixK_list K) (pe_lst (pa_cons pe_int (pa_cons pe_int (pa_cons pe_int (pa_cons pe_int (pa_cons pe_int pa_nil)))))) (pe_op op_mod (pe_bt call_int1 T.b_int (by decide +kernel) (pa_cons (pe_ix (ixK_list K) (pv 0) pe_int (fun _ _ => rfl)) pa_nil)) pe_int) (fun _ _ => rfl))) (pss_cons (ps_set (i := 4) nd rfl (Or.inl rfl) (pe_op op_mod (pe_bt call_int1 T.b_int (by decide +kernel) (pa_cons (pe_op op_pow (pe_bt call_int1 T.b_int (by decide +kernel) (pa_cons (pe_op op_add (pe_op op_add (pe_ix (ixK_list K) (pv 0) pe_int (fun _ _ => rfl)) (pe_op op_mul (pe_op op_mul pe_int (pe_ix (ixK_list K) (pv 0) pe_int (fun _ _ => rfl))) (pe_ix (ixK_list K) (pv 0) pe_int (fun _ _ => rfl)))) pe_int) pa_nil)) pe_int) pa_nil)) (pv 3))) (pss_cons (ps_set (i := 4) nd rfl (Or.inl rfl) (pe_op op_mod (pe_bt call_int1 T.b_int (by decide +kernel) (pa_cons (pe_op op_mul (pv 4) (pe_op op_add (pe_op op_mod (pe_bt call_int1 T.b_int (by decide +kernel) (pa_cons (pv 4) pa_nil)) pe_int) (pe_op op_mul pe_int (pe_ix (ixK_list K) (pv 0) pe_int (fun _ _ => rfl))))) pa_nil)) pe_int)) (pss_one (ps_ret (pe_op op_mod (pe_bt call_int1 T.b_int (by decide +kernel) (pa_cons (pe_op op_fdiv (pv 4) pe_int) pa_nil)) (pv 1))))))))), ?_⟩
  rintro _ _ _ _ ⟨p, n, u, c0, c1, rfl, rfl, rfl, rfl⟩
  refine sm_pre (rs := fun q : Int × Int × Int => potV p q.1 q.2.1 q.2.2) (fun _ => rfl) fun H ⟨x, y, z, hj, hx, hy, hy2, hz, hz2⟩ => ⟨(x, y, z), hj, ?_⟩
  show Sm (potV p x y z) _ _ _
  have henv := fun ρ => pv_env (K := K) (p := p) (x := x) (y := y) (z := z) (ρ := ρ)
  refine sm_ifR rfl (tm_of (td_test (ed_gt (ed_ixL (K := K) (ed_var (i := 0)) ed_c rfl) ed_c)) (henv _)) (fun hb => ?_) (fun hb => ?_)
  · refine sm_seq rfl (sm_set rfl (em_of (ed_mod (j := u) (ed_cb (eda_cons (ed_ixL (K := K) (ed_var (i := 0)) ed_c rfl) eda_nil) cd_int) (ed_var (i := 1)) (by omega)) (henv _) hidr_V)) ?_
    refine sm_seqS (r1 := potV p (x / u) y z) rfl (sm_setI (j := 0) (em_of (ed_fdiv (ed_ixL (K := K) (ed_var (i := 0)) ed_c rfl) (ed_var (i := 1)) ⟨by omega, by omega⟩) (henv _) hidr_V) rfl rfl) ?_
    exact sm_post (r1 := potV p (x / u) y z) (d := dI (x % u)) (fun H hj => ⟨_, _, _, hj, Int.ediv_nonneg hx (by omega), hy, hy2, hz, by omega⟩) (fun H v h => ⟨_, h, Int.emod_nonneg _ (by omega), by have := Int.emod_lt_of_pos x (show (0 : Int) < u by omega); omega⟩) (sm_ret (em_var (i := 2)))
  · refine sm_seqS (r1 := potV p x y (z + 1)) rfl (sm_setI (j := 2) (em_of (ed_add (ed_ixL (K := K) (ed_var (i := 0)) ed_c rfl) ed_c) (henv _) hidr_V) rfl rfl) ?_
    have henv := fun ρ => pv_env (K := K) (p := p) (x := x) (y := y) (z := z + 1) (ρ := ρ)
    obtain ⟨pr, hp0, hp1, hpr⟩ := prime_at (z + 1)
    obtain ⟨hq0, hq1⟩ := sq_bd (z := z + 1) (by omega) (by omega)
    refine sm_seq rfl (sm_set rfl (em_of (ed_ixL (K := K) (ed_lst (eda_cons ed_c (eda_cons ed_c (eda_cons ed_c (eda_cons ed_c (eda_cons ed_c eda_nil))))) (by simp)) (ed_mod (ed_cb (eda_cons (ed_ixL (K := K) (ed_var (i := 0)) ed_c rfl) eda_nil) cd_int) ed_c (by decide)) hpr) (henv _) hidr_V)) ?_
    refine sm_seq rfl (sm_set rfl (em_of (ed_mod (j := pr) (ed_cb (eda_cons (ed_pow (i := y + 104707 * (z + 1) * (z + 1) + 31) (j := 3) (ed_cb (eda_cons (ed_add (ed_add (ed_ixL (K := K) (ed_var (i := 0)) ed_c rfl) (ed_mul (j := z + 1) (ed_mul (j := z + 1) ed_c (ed_ixL (K := K) (ed_var (i := 0)) ed_c rfl) (.inl ⟨by decide, by decide⟩)) (ed_ixL (K := K) (ed_var (i := 0)) ed_c rfl) (.inr ⟨by omega, by omega⟩))) ed_c) eda_nil) cd_int) ed_c ⟨by decide, by decide, by omega⟩) eda_nil) cd_int) (ed_var (i := 3)) hp0) (henv _) hidr_V)) ?_
    generalize hm : (y + 104707 * (z + 1) * (z + 1) + 31) ^ (3 : Int).toNat % pr = m
    have hm0 : 0 ≤ m := by rw [← hm]; exact Int.emod_nonneg _ (by omega)
    have hm1 : m < pr := by rw [← hm]; exact Int.emod_lt_of_pos _ hp0
    refine sm_seq rfl (sm_set rfl (em_of (ed_mod (ed_cb (eda_cons (ed_mul (i := m) (ed_var (i := 4)) (ed_add (ed_mod (ed_cb (eda_cons (ed_var (i := 4)) eda_nil) cd_int) ed_c (by decide)) (ed_mul ed_c (ed_ixL (K := K) (ed_var (i := 0)) ed_c rfl) (.inl ⟨by decide, by decide⟩))) (.inl ⟨by omega, by omega⟩)) eda_nil) cd_int) ed_c (by decide)) (henv _) hidr_V)) ?_
    exact sm_post (r1 := potV p x y (z + 1)) (d := dI (m * (m % 10009 + 101 * (z + 1)) % 2305843009213693907 / 109 % u)) (fun H hj => ⟨_, _, _, hj, hx, hy, hy2, by omega, by omega⟩) (fun H v h => ⟨_, h, Int.emod_nonneg _ (by omega), by have := Int.emod_lt_of_pos (m * (m % 10009 + 101 * (z + 1)) % 2305843009213693907 / 109) (show (0 : Int) < u by omega); omega⟩) (sm_ret (em_e (ed_mod (ed_cb (eda_cons (ed_fdiv (ed_var (i := 4)) ed_c ⟨by decide, by decide⟩) eda_nil) cd_int) (ed_var (i := 1)) (by omega)) hidr_V))

end
end Sl
namespace Sl
open PySem PySem.Spec PyProof.Rows L2 StX RZ
open Evl (Ex ex_l ex_t ex_rd sq_of st_of sz_of sz_lt fresh_back)
local macro_rules | `(tactic| walk_at "sd") => `(tactic| first | assumption | omega | decide | (constructor <;> assumption) | (constructor <;> omega))
section
variable {P : Program} {w : World} {K : PySem.W.Frag} {mg : Str → Option Value} {base : Heap}

/-- one of some data -/
def dOne (ds : List Dt) : Dt := ⟨fun H v => ∃ d ∈ ds, d.P H v, fun e ⟨d, h, p⟩ => ⟨d, h, d.mono e p⟩⟩
theorem em_ixR {r r' : Rg} {ρ : Rho} {ta tb : TE} {ds : List Dt} (as : r'.as = r.as) (ha : Em r r ta ρ (dLst K ds)) (hb : Em r r' tb ρ (dRng 0 ((ds.length : Int) - 1))) (hn : 1 ≤ ds.length) : Em r r' (tOp (rIxL K) ta tb) ρ (dOne ds) := fun H σ e Q q =>
  ha H σ e _ fun v H1 j1 e1 ⟨p, vs, a, b, c⟩ => hb H1 σ ⟨j1, e.2.mono e1⟩ _ fun w H2 j2 e2 ⟨i, hi, h0, h1⟩ => by
    have hd : ds[i.toNat]? = some (ds[i.toNat]'(by omega)) := List.getElem?_eq_getElem _
    obtain ⟨u, hu, pu⟩ := (c.mono e2).get hd
    exact ⟨p, vs, i, u, a, hi, sq_of (hideL_ex _ _ (e2 _ _ b)), atI_in h0 hu, q u H2 j2 (e1.trans e2) ⟨_, List.getElem_mem _, pu⟩⟩
/-- a call that changes a part of the region -/
theorem em_callS {R : List Dt → Rg → Rg → Dt → Prop} {E : XK} {tt : TA} {ds : List Dt} {r r1 r' rs rs' : Rg} {ρ : Rho} {d : Dt} (as : r1.as = r.as) (h : EmA r r1 tt ρ ds) (hr : R ds rs rs' d) (sub : ∀ a ∈ rs.as, a ∈ r.as) (j1 : ∀ H, r1.J H → rs.J H)
    (j2 : ∀ H H', r1.J H → rs'.J H' → Ex (hideL rs.as H) (hideL rs.as H') → r'.J H') (hd : ∀ H v, r'.J H → d.P (hideL rs.as H) v → d.P (hideL r.as H) v) : Em r r' (tCall (spM R) [] E tt) ρ d := fun H σ e Q q =>
  h H σ e _ fun vs H1 j e1 p1 => ⟨ds, rs, rs', d, hr, j1 H1 j, by rw [List.append_nil]; exact p1.mono (hideL_sub sub), fun v H2 j' e2 p2 => by
    have jb := j2 H1 H2 j j' e2
    refine q v H2 jb (e1.trans fun b o hb => ?_) (hd H2 v jb p2)
    have hnb : b ∉ r.as := fun hm => by rw [hideL_in hm] at hb; cases hb
    rw [hideL_at hnb] at hb
    rw [hideL_at hnb]
    have := e2 b o (by rw [hideL_at fun hm => hnb (sub b hm)]; exact hb)
    rw [hideL_at fun hm => hnb (sub b hm)] at this
    exact this⟩
/-- x = [..], a list of the def's own from here on -/
theorem sm_ownL {r r1 r3 : Rg} {R2 R3 : Addr → Rg} {ρ : Rho} {k : Nat} {ta : TA} {s2 : TS} {ds : List Dt} {d : Dt} (as1 : r1.as = r.as) (h : EmA r r1 ta ρ ds) (hz : ds.length ≤ 1000) (as2 : ∀ f, (R2 f).as = f :: r.as)
    (hj : ∀ f H1 vs, r1.J H1 → H1 f = none → All2 (hideL r.as H1) ds vs → (R2 f).J (upd H1 f (.lst vs))) (hs : ∀ f, f ∉ r.as → Sm (R2 f) s2 (ρ.set k (some (dV (.ref f)))) (.ret (R3 f) d)) (h3 : ∀ f H, (R3 f).J H → r3.J H) : Sm r (tSeq (tAsg (tLst ta) (gName k)) s2) ρ (.ret r3 d) := fun H σ D e q =>
  h H σ e _ fun vs H1 j1 e1 p1 => ⟨sz_of (by rw [← p1.len]; omega), fun f hf => by
    have hna : f ∉ r.as := fun hm => r1.live j1 f (by rw [as1]; exact hm) hf
    have e2 : Ex (hideL r.as H) (hideL (f :: r.as) (upd H1 f (.lst vs))) := fun b o hb => by
      have h1 := e1 b o hb
      have hnb : b ∉ r.as := fun hm => by rw [hideL_in hm] at hb; cases hb
      rw [hideL_at hnb] at h1
      have hbf : b ≠ f := fun z => by rw [z, hf] at h1; cases h1
      rw [hideL_at (by simp [hbf, hnb]), upd_ne hbf]
      exact h1
    have en : EnvOk (hideL (R2 f).as (upd H1 f (.lst vs))) (ρ.set k (some (dV (.ref f)))) (σ.set k (some (.ref f))) := by
      rw [as2]
      exact (e.2.mono e2).set rfl k
    refine hs f hna _ _ D ⟨hj f H1 vs j1 hf p1, en⟩ fun v H' j' e' p' => ?_
    rw [as2] at e' p'
    have e3 : Ex (hideL (f :: r.as) H') (hideL r.as H') := hideL_sub fun a ha => List.mem_cons_of_mem _ ha
    exact q v H' (h3 f H' j') ((e2.trans e').trans e3) (d.mono e3 p')⟩

/-! _law_of -/
def R_law_of (K : PySem.W.Frag) : List Dt → Rg → Rg → Dt → Prop := fun ds r r2 d => ∃ p : Addr, ∃ n : Nat, ∃ es : List Dt, (1 ≤ es.length ∧ es.length ≤ 100) ∧ (n < 100000) ∧ ds = [dV (.ref p), dLst K es] ∧ r = potR p n ∧ r2 = potR p (n + 1) ∧ d = dOne es
abbrev N_law_of : List Str := ["_law_pot_here", "_law_some"]
theorem sc_law_of : FnScope N_law_of ["_law_pot_here", "_law_some"] (defScope s_law_of) := ⟨rfl, rfl, rfl, by decide +kernel, rfl, by decide +kernel, by decide +kernel⟩
theorem fn_law_of (T : Tx w K mg) : Fn0 P w K mg base 2 "_law_of" ["_law_pot_here", "_law_some"] (spM (R_law_of K)) := by
  obtain ⟨fd, F⟩ := T.f_law_of
  have nd := sc_law_of.nd
  refine mk_fn T.g_law_of F.kp (fn_M F sc_law_of (by rintro _ _ _ _ ⟨p, n, es, c0, c1, rfl, rfl, rfl, rfl⟩; rfl) (fun cdv A outer s H E hr => ?_)) (F.bindsN fun _ _ _ _ _ _ us hl => match us, hl with | [_, _], _ => rfl)
  have hu := hu_of hr
  have hu65 := hu65 hr
  refine ⟨_, (pss_one (ps_ret (pe_ix (ixK_list K) (pv 1) (pe_callF (fn_law_take T) hr (pa_cons (pv 0) (pa_cons (pe_bi (crK_len K) T.b_len (by decide +kernel) (pa_cons (pv 1) pa_nil)) pa_nil))) (fun _ _ => rfl)))), ?_⟩
  rintro _ _ _ _ ⟨p, n, es, c0, c1, rfl, rfl, rfl, rfl⟩
  refine sm_ret (em_ixR rfl (em_var (i := 1)) (em_call (r1 := potR p n) rfl (ema_cons rfl em_var (ema_cons rfl (em_e (ed_cb (eda_cons (ed_var (i := 1)) eda_nil) cd_lenL) hidr_V) ema_nil)) ⟨p, n, _, ⟨by omega, by omega⟩, c1, rfl, rfl, rfl, rfl⟩) (by omega))

end
end Sl
namespace Sl
open PySem PySem.Spec PyProof.Rows L2 StX RZ
open Evl (Ex ex_l ex_t ex_rd sq_of st_of sz_of sz_lt fresh_back)
local macro_rules | `(tactic| walk_at "sd") => `(tactic| first | assumption | omega | decide | (constructor <;> assumption) | (constructor <;> omega))
section
variable {P : Program} {w : World} {K : PySem.W.Frag} {mg : Str → Option Value} {base : Heap}

theorem rng_soft {p : Addr} {n : Nat} {H : Hp} (h : (potR p n).J H) : ∀ a ∈ (potR p n).as, ∃ o, H a = some o ∧ SoftO o := fun a ha => by
  obtain ⟨x, y, z, h1, _⟩ := h
  rw [List.mem_singleton.mp ha]
  exact ⟨_, h1, (fun _ e => nomatch e), (fun _ _ e => nomatch e), (fun _ _ _ e => nomatch e)⟩
/-- the pot and a list of ints -/
def szR (p : Addr) (n : Nat) (f : Addr) (ns : List Int) : Rg where
  as := [f, p]
  J := fun H => (potR p n).J H ∧ H f = some (.lst (ns.map V.int)) ∧ f ≠ p
  mono := fun e ⟨h1, h2, h3⟩ => ⟨(potR p n).mono e h1, e _ _ h2, h3⟩
  live := fun ⟨h1, h2, h3⟩ b hb => by
    simp only [List.mem_cons, List.not_mem_nil, or_false] at hb
    rcases hb with rfl | rfl
    · rw [h2]
      exact fun z => by cases z
    · exact (potR b n).live h1 b (by simp [potR])
def szX (p : Addr) (n : Nat) (f : Addr) (k : Nat) : Rg where
  as := [f, p]
  J := fun H => ∃ ns, (szR p n f ns).J H ∧ GoodSizes ns ∧ ns.length = k
  mono := fun e ⟨ns, h1, h2⟩ => ⟨ns, (szR p n f ns).mono e h1, h2⟩
  live := fun ⟨ns, h1, h2⟩ b hb => (szR p n f ns).live h1 b hb
def dSizes (K : PySem.W.Frag) (m : Nat) : Dt := ⟨fun H v => ∃ ns, GoodSizes ns ∧ ns.length = m ∧ (tupI K ns).P H v, fun e ⟨ns, h1, h2, h3⟩ => ⟨ns, h1, h2, Dt.mono _ e h3⟩⟩
section
variable {r r' r1 : Rg} {ρ ρ1 : Rho} {ta tb te : TE} {d : Dt}
theorem em_addR {a lo hi : Int} (h : Em r r' tb ρ (dRng lo hi)) : Em r r' (tOp rAddI (tC (.int a)) tb) ρ (dRng (a + lo) (a + hi)) := fun H σ e Q q => h H σ e _ fun v H1 j1 e1 ⟨i, hi, h0, h1⟩ => ⟨a, i, rfl, hi, q _ H1 j1 e1 ⟨a + i, rfl, by omega, by omega⟩⟩
theorem em_wk {d' : Dt} (h : Em r r' te ρ d) (hd : ∀ H v, d.P H v → d'.P H v) : Em r r' te ρ d' := fun H σ e Q q => h H σ e _ fun v H1 j1 e1 p => q v H1 j1 e1 (hd _ _ p)
/-- for i in range(n) -/
theorem sm_forN {g : TG} {s1 : TS} {n : Nat} {m : Int} (r : Nat → Rg) (as : List Addr) (ha : ∀ i, (r i).as = as) (h : Em (r 0) (r 0) ta ρ (dI m)) (hm : m.toNat = n) (hb : -100000 ≤ m ∧ m ≤ 100000)
    (hs : ∀ i : Nat, i < n → ∃ ρ1, GdM g (dI (i : Int)) ρ ρ1 ∧ Sm (r i) s1 ρ1 (.nx (r (i + 1)) ρ)) : Sm (r 0) (tFor (iRng1 (tCons ta tNil)) g s1) ρ (.nx (r n) ρ) := fun H σ D e k => h H σ e _ fun v H1 j1 e1 p1 => by
  have p1' : v = .int m := p1
  subst p1'
  rw [ha] at e1
  have en := e.2
  rw [ha] at en
  refine ⟨m, rfl, by omega, by omega, ?_⟩
  rw [hm]
  have w := walk_range (lo := 0) (n := n)
  refine ⟨fun i q σ2 H2 => q = n - i ∧ i ≤ n ∧ (r i).J H2 ∧ Ex (hideL as H) (hideL as H2) ∧ EnvOk (hideL as H2) ρ σ2, ⟨_, rfl, Nat.zero_le _, j1, e1, en.mono e1⟩, ?_⟩
  rintro i q σ2 H2 ⟨rfl, hi, j2, e2, en2⟩
  by_cases hlt : i < n
  · right
    refine ⟨w.goes i H2 hlt trivial, fun σ' H' => (r (i + 1)).J H' ∧ Ex (hideL as H) (hideL as H') ∧ EnvOk (hideL as H') ρ σ', fun σ' H' ⟨a, b, c⟩ => ⟨_, by omega, rfl, hlt, a, b, c⟩, fun x H3 y => ?_⟩
    obtain ⟨rfl, hx⟩ := w.yields i H2 x H3 hlt trivial y
    have hx' : x = .int (i : Nat) := by
      have : x = .int (0 + i) := hx
      rw [Int.zero_add] at this
      exact this
    subst hx'
    obtain ⟨ρ1, hg, hb⟩ := hs i hlt
    refine hg as _ _ σ2 rfl en2 _ fun σ3 en3 => ?_
    refine hb _ σ3 _ ⟨j2, by rw [ha]; exact en3⟩ fun σ' H' j' e' en' => ?_
    rw [ha] at e' en'
    exact ⟨j', e2.trans e', en'⟩
  · left
    have ei : i = n := by omega
    subst ei
    exact ⟨w.stops H2 trivial, k σ2 H2 j2 (by rw [ha]; exact e2) (by rw [ha]; exact en2)⟩
/-- x.append(e), x of the region -/
theorem sm_appV {l : Addr} {i : Nat} (hv : ρ[i]? = some (some (dV (.ref l)))) (hl0 : ∀ H, r.J H → ∃ vs, H l = some (.lst vs)) (hte : Em r r1 te ρ d) (as : r1.as = r.as) (hm : l ∈ r.as)
    (hl : ∀ H, r1.J H → ∃ vs, H l = some (.lst vs) ∧ vs.length < 1000 ∧ ∀ v, d.P (hideL r.as H) v → r'.J (upd H l (.lst (vs ++ [v])))) : Sm r (tDrop (tBM K "list" rAppend (tVar i) (tCons te tNil))) ρ (.nx r' ρ) := fun H σ D e k => by
  obtain ⟨v0, h1, h2⟩ := e.2.get hv
  have h2' : v0 = .ref l := h2
  subst h2'
  obtain ⟨vs0, g1⟩ := hl0 H e.1
  refine ⟨.ref l, h1, .inl ⟨rfl, vs0, sq_of g1⟩, hte H σ e _ fun v H1 j1 e1 p1 => ?_⟩
  obtain ⟨vs, g1, g2, g3⟩ := hl H1 j1
  exact ⟨l, vs, v, rfl, rfl, g1, sz_lt (by omega), k σ _ (g3 v p1) (by rw [hideL_upd hm]; exact e1) (by rw [hideL_upd hm]; exact e.2.mono e1)⟩
theorem rg_envI {i : Nat} {l : Addr} {ds : List Dt} (h : ρ[i]? = some (some (dV (.ref l)))) (hj : ∀ H, r.J H → (dLst K ds).P H (.ref l)) : ∀ H σ, r.Ok H ρ σ → EnvOk H (ρ.set i (some (dLst K ds))) σ := fun H σ e => by
  obtain ⟨v, h1, h2⟩ := e.2.get h
  have h2' : v = .ref l := h2
  subst h2'
  exact envok_ext h1 (hj H e.1) (e.2.mono hideL_ex)
end
theorem at_lastI {ns : List Int} {a : Int} : atI ((ns ++ [a]).map fun n => dI n) (-1) = some (dI a) := by
  unfold atI
  have hx : ixN ((ns ++ [a]).map fun n => dI n).length (-1) = some ns.length := by
    rw [List.length_map, List.length_append]
    unfold ixN
    simp
    omega
  rw [hx]
  show ((ns ++ [a]).map fun n => dI n)[ns.length]? = _
  rw [List.getElem?_map, List.getElem?_append_right (Nat.le_refl _)]
  simp
theorem good_snoc {ns : List Int} {a b : Int} (h : GoodSizes (ns ++ [a])) (hl : (ns ++ [a]).length < 5) (hb : 2 ≤ b ∧ b ≤ 9 ∧ b ≤ 2 * a) : GoodSizes (ns ++ [a] ++ [b]) := by
  obtain ⟨h1, h2, h3, h4⟩ := h
  refine ⟨by simp, by simp at hl ⊢; omega, fun n hn => ?_, fun p hp => ?_⟩
  · rcases List.mem_append.mp hn with hn | hn
    · exact h3 n hn
    · rw [List.mem_singleton.mp hn]
      omega
  · obtain ⟨i, hi⟩ := List.getElem?_of_mem hp
    obtain ⟨g1, g2⟩ := List.getElem?_zip_eq_some.mp hi
    rw [List.getElem?_drop] at g2
    by_cases hlt : 1 + i < (ns ++ [a]).length
    · refine h4 p (List.mem_of_getElem? (i := i) (List.getElem?_zip_eq_some.mpr ⟨?_, ?_⟩))
      · rw [List.getElem?_append_left (by omega)] at g1
        exact g1
      · rw [List.getElem?_drop]
        rw [List.getElem?_append_left hlt] at g2
        exact g2
    · have hi2 := (List.getElem?_eq_some_iff.mp g2).1
      simp at hi2 hlt
      have ei : i = ns.length := by omega
      subst ei
      have e1 : p.1 = a := by
        have : (ns ++ [a] ++ [b])[ns.length]? = some a := by simp
        rw [this] at g1
        exact (Option.some.inj g1).symm
      have e2 : p.2 = b := by
        have : (ns ++ [a] ++ [b])[1 + ns.length]? = some b := by
          rw [List.getElem?_append_right (by simp; omega)]
          simp [Nat.add_comm]
        rw [this] at g2
        exact (Option.some.inj g2).symm
      rw [e1, e2]
      omega
theorem potR_le {p : Addr} {n m : Nat} (h : n ≤ m) {H : Hp} (j : (potR p n).J H) : (potR p m).J H := by
  obtain ⟨x, y, z, h1, h2, h3, h4, h5, h6⟩ := j
  exact ⟨x, y, z, h1, h2, h3, h4, h5, by omega⟩
theorem sz_hid {p f : Addr} {n : Nat} {ns : List Int} {d : Dt} (h : HidL d) : HidR (szR p n f ns) d := fun H v ⟨j1, j2, j3⟩ pv => h H _ v (fun a ha => by
  simp only [szR, List.mem_cons, List.not_mem_nil, or_false] at ha
  rcases ha with rfl | rfl
  · exact ⟨_, j2, (fun _ e => nomatch e), (fun _ _ e => nomatch e), (fun _ _ _ e => nomatch e)⟩
  · exact rng_soft j1 a (by simp [potR])) pv
theorem sz_call {p f : Addr} {n m : Nat} {ns : List Int} : ∀ H H', (szR p n f ns).J H → (potR p m).J H' → Ex (hideL (potR p n).as H) (hideL (potR p n).as H') → (szR p m f ns).J H' := fun H H' ⟨j1, j2, j3⟩ j' e => ⟨j', by
  have hf : f ∉ (potR p n).as := by simpa [potR] using j3
  have := e f _ (by rw [hideL_at hf]; exact j2)
  rw [hideL_at hf] at this
  exact this, j3⟩

/-! _law_sizes -/
def R_law_sizes (K : PySem.W.Frag) : List Dt → Rg → Rg → Dt → Prop := fun ds r r2 d => ∃ p : Addr, ∃ n : Nat, ∃ m : Nat, (1 ≤ m ∧ m ≤ 5) ∧ (n < 90000) ∧ ds = [dV (.ref p), dI (m : Int)] ∧ r = potR p n ∧ r2 = potR p (n + 2 * m) ∧ d = dSizes K m
abbrev N_law_sizes : List Str := ["_law_pot_here", "_law_many", "_law_found", "_law_turn", "_law_top"]
theorem sc_law_sizes : FnScope N_law_sizes ["_law_pot_here", "_law_many"] (defScope s_law_sizes) := ⟨rfl, rfl, rfl, by decide +kernel, rfl, by decide +kernel, by decide +kernel⟩
theorem fn_law_sizes (T : Tx w K mg) : Fn0 P w K mg base 3 "_law_sizes" ["_law_pot_here", "_law_many"] (spM (R_law_sizes K)) := by
  obtain ⟨fd, F⟩ := T.f_law_sizes
  have nd := sc_law_sizes.nd
  refine mk_fn T.g_law_sizes F.kp (fn_M F sc_law_sizes (by rintro _ _ _ _ ⟨p, n, m, c0, c1, rfl, rfl, rfl, rfl⟩; rfl) (fun cdv A outer s H E hr => ?_)) (F.bindsN fun _ _ _ _ _ _ us hl => match us, hl with | [_, _], _ => rfl)
  have hu := hu_of hr
  have hu65 := hu65 hr
  refine ⟨_, (pss_cons (ps_set (i := 2) nd rfl (Or.inl rfl) (pe_lst (pa_cons (pe_op op_add pe_int (pe_callF (fn_law_take T) (hr.mono (by decide)) (pa_cons (pv 0) (pa_cons pe_int pa_nil)))) pa_nil))) (pss_cons (ps_for PassesOwn.never rfl (pi_r1 T.b_range (pa_cons (pe_op op_sub (pv 1) pe_int) pa_nil)) (pg_name (i := 3) nd rfl (Or.inl rfl)) (pss_cons (ps_set (i := 4) nd rfl (Or.inl rfl) (pe_bi (call_min2 (by rfl)) T.b_min (by decide +kernel) (pa_cons pe_int (pa_cons (pe_bt call_int1 T.b_int (by decide +kernel) (pa_cons (pe_op op_mul pe_int (pe_ix (ixK_list K) (pv 2) (pe_un un_neg pe_int) (fun _ _ => rfl))) pa_nil)) pa_nil)))) (pss_one (ps_expr (pe_bm PySem.F.plainAttrs_list PySem.F.slot_list_append PySem.F.type_list_append mt_append (pv 2) (pa_cons (pe_callF (fn_law_of T) hr (pa_cons (pv 0) (pa_cons (pe_lst (pa_cons (pv 4) (pa_cons (pe_ix (ixK_list K) (pv 2) (pe_un un_neg pe_int) (fun _ _ => rfl)) (pa_cons (pe_op op_add pe_int (pe_callF (fn_law_take T) (hr.mono (by decide)) (pa_cons (pv 0) (pa_cons (pe_op op_sub (pv 4) pe_int) pa_nil)))) pa_nil)))) pa_nil))) pa_nil)))))) (pss_one (ps_ret (pe_bt (crK_tuple K) T.b_tuple (by decide +kernel) (pa_cons (pv 2) pa_nil)))))), ?_⟩
  rintro _ _ _ _ ⟨p, n, m, c0, c1, rfl, rfl, rfl, rfl⟩
  refine sm_ownL (r1 := potR p (n + 1)) (R2 := fun f => szX p (n + 1) f 1) (R3 := fun f => szX p (n + 2 * m) f m) rfl (ema_cons (r1 := potR p (n + 1)) rfl (em_addR (em_call (r1 := potR p n) rfl (ema_cons rfl em_var (ema_cons rfl (em_e ed_c hidr_V) ema_nil)) ⟨p, n, 8, by decide, by omega, rfl, rfl, rfl, rfl⟩)) ema_nil) (by simp) (fun f => rfl) (fun f H1 vs j hf pa => ?_) (fun f hf => ?_) (fun f H ⟨ns, ⟨h1, _⟩, _⟩ => h1)
  · obtain ⟨v, rfl, i, rfl, h0, h1⟩ := all2_1 pa
    refine ⟨[i], ⟨(potR p (n + 1)).mono (Ex.new hf) j, upd_same, fun e => ?_⟩, ⟨by simp, by simp, fun a ha => ?_, fun q hq => by simp at hq⟩, rfl⟩
    · obtain ⟨x, y, z, g1, _⟩ := j
      rw [e, g1] at hf
      cases hf
    · rw [List.mem_singleton.mp ha]
      omega
  refine sm_seq (r1 := szX p (n + 1 + 2 * (m - 1)) f (1 + (m - 1))) rfl (sm_forN (n := m - 1) (fun i => szX p (n + 1 + 2 * i) f (1 + i)) [f, p] (fun _ => rfl) (em_e (ed_sub ed_var ed_c) hidr_V) (by omega) (by omega) fun i hi => ⟨_, gdm_name, ?_⟩) ?_
  · refine sm_pre (rs := fun ns => szR p (n + 1 + 2 * i) f ns) (fun _ => rfl) fun H ⟨ns, hj, hg, hl⟩ => ⟨ns, hj, ?_⟩
    obtain ⟨ms, a, rfl⟩ : ∃ ms a, ns = ms ++ [a] := ⟨ns.dropLast, ns.getLast (fun e => by rw [e] at hl; simp at hl; omega), (List.dropLast_concat_getLast _).symm⟩
    have ha := hg.2.2.1 a (by simp)
    generalize ht : (if 2 * a < 9 then 2 * a else 9) = t
    have ht1 : 4 ≤ t ∧ t ≤ 9 ∧ t ≤ 2 * a := by rw [← ht]; split <;> omega
    have henv := fun (n' : Nat) (ρ : Rho) (h : ρ[2]? = some (some (dV (.ref f)))) => rg_envI (K := K) (r := szR p n' f (ms ++ [a])) (i := 2) (ds := (ms ++ [a]).map fun n => dI n) h (fun H j => ⟨f, _, rfl, j.2.1, all2_ints _⟩)
    refine sm_wk rfl (sm_seq (r1 := szR p (n + 1 + 2 * i) f (ms ++ [a])) rfl (sm_set (d := dI t) rfl (em_of (ed_is (ed_cb (eda_cons ed_c (eda_cons (ed_cb (eda_cons (ed_mul ed_c (ed_ixL (K := K) (ed_var (i := 2)) (ed_neg ed_c) at_lastI) (.inl ⟨by decide, by decide⟩)) eda_nil) cd_int) eda_nil)) cd_min2) (by rw [← ht])) (henv _ _ rfl) hidr_V)) ?_) (ρ1 := [some (dV (.ref p)), some (dI (m : Int)), some (dV (.ref f)), some (dI (i : Int)), some (dI t)]) (wk_c (wk_c (wk_c (wk_n (wk_n wk_0)))))
    refine sm_appV (l := f) (i := 2) (d := dRng 2 t) (r1 := szR p (n + 1 + 2 * i + 1 + 1) f (ms ++ [a])) rfl (fun H j => ⟨_, j.2.1⟩) (em_wk (d := dOne [dI t, dI a, dRng (2 + 0) (2 + (t - 1 - 1))]) (em_callS (rs := potR p (n + 1 + 2 * i + 1)) (rs' := potR p (n + 1 + 2 * i + 1 + 1)) (r1 := szR p (n + 1 + 2 * i + 1) f (ms ++ [a])) rfl (ema_cons rfl em_var (ema_cons (r1 := szR p (n + 1 + 2 * i + 1) f (ms ++ [a])) rfl (em_lst (K := K) (r' := szR p (n + 1 + 2 * i + 1) f (ms ++ [a])) rfl (ema_cons rfl (em_var (i := 4)) (ema_cons (r1 := szR p (n + 1 + 2 * i) f (ms ++ [a])) rfl (em_of (ed_ixL (K := K) (ed_var (i := 2)) (ed_neg ed_c) at_lastI) (henv _ _ rfl) hidr_V) (ema_cons (r1 := szR p (n + 1 + 2 * i + 1) f (ms ++ [a])) rfl (em_addR (em_callS (rs := potR p (n + 1 + 2 * i)) (rs' := potR p (n + 1 + 2 * i + 1)) (r1 := szR p (n + 1 + 2 * i) f (ms ++ [a])) rfl (ema_cons rfl em_var (ema_cons rfl (em_e (ed_sub (ed_var (i := 4)) ed_c) hidr_V) ema_nil)) ⟨p, n + 1 + 2 * i, t - 1, by omega, by omega, rfl, rfl, rfl, rfl⟩ (by simp [potR, szR]) (fun H j => j.1) sz_call (fun H v _ h => h))) ema_nil))) (by simp)) ema_nil)) ⟨p, n + 1 + 2 * i + 1, _, by simp, by omega, rfl, rfl, rfl, rfl⟩ (by simp [potR, szR]) (fun H j => j.1) sz_call (fun H v _ ⟨d, hd, pd⟩ => ⟨d, hd, by
      simp only [List.mem_cons, List.not_mem_nil, or_false] at hd
      rcases hd with rfl | rfl | rfl <;> exact pd⟩)) (fun H v ⟨d, hd, pd⟩ => by
      simp only [List.mem_cons, List.not_mem_nil, or_false] at hd
      rcases hd with rfl | rfl | rfl
      · exact ⟨t, pd, by omega, by omega⟩
      · refine ⟨a, pd, by omega, ?_⟩
        rw [← ht]
        split <;> omega
      · obtain ⟨b, h1, h2, h3⟩ := pd
        exact ⟨b, h1, by omega, by omega⟩)) rfl (by simp [szR]) (fun H j => ⟨_, j.2.1, by have := hg.2.1; simp at this ⊢; omega, fun v ⟨b, hv, b0, b1⟩ => ?_⟩)
    subst hv
    refine ⟨ms ++ [a] ++ [b], ⟨?_, by rw [upd_same, List.map_append (l₂ := [b])]; rfl, j.2.2⟩, good_snoc hg (by omega) (by omega), by simp at hl ⊢; omega⟩
    obtain ⟨x, y, z, g1, g2⟩ := j.1
    have hne : p ≠ f := fun e => j.2.2 e.symm
    exact potR_le (by omega) ⟨x, y, z, by rw [upd_ne hne]; exact g1, g2⟩
  · refine sm_pre (rs := fun ns => szR p (n + 1 + 2 * (m - 1)) f ns) (fun _ => rfl) fun H ⟨ns, hj, hg, hl⟩ => ⟨ns, hj, ?_⟩
    exact sm_post (r1 := szR p (n + 1 + 2 * (m - 1)) f ns) (d := tupI K ns) (fun H j => ⟨ns, ⟨potR_le (by omega) j.1, j.2⟩, hg, by omega⟩) (fun H v h => ⟨ns, hg, by omega, h⟩) (sm_ret (em_of (ed_cb (eda_cons (ed_var (i := 2)) eda_nil) cd_tupL) (rg_envI (K := K) (i := 2) (ds := ns.map fun n => dI n) rfl (fun H j => ⟨f, _, rfl, j.2.1, all2_ints _⟩)) (sz_hid hidL_tupI)))

end
end Sl
namespace Sl
open PySem PySem.Spec PyProof.Rows L2 StX RZ
open Evl (Ex ex_l ex_t ex_rd sq_of st_of sz_of sz_lt fresh_back)
local macro_rules | `(tactic| walk_at "sd") => `(tactic| first | assumption | omega | decide | (constructor <;> assumption) | (constructor <;> omega))
section
variable {P : Program} {w : World} {K : PySem.W.Frag} {mg : Str → Option Value} {base : Heap}

theorem vals_signs {x : Str} : ∀ (l : List Nat) (us : List Value), l.length = us.length → (∀ (i : Nat) c v, l[i]? = some c → us[i]? = some v → ∃ t, v = .str ⟨#[c]⟩ t) → Vals (l.map fun c => V.str ⟨#[c]⟩) us
  | [], [], _, _ => .nil
  | c :: l, v :: us, hl, h => by
    obtain ⟨t, rfl⟩ := h 0 c v rfl rfl
    exact .cons ⟨t, rfl⟩ (vals_signs (x := x) l us (by simpa using hl) fun i c v h1 h2 => h (i + 1) c v (by simpa using h1) (by simpa using h2))
  | [], _ :: _, hl, _ => by simp at hl
  | _ :: _, [], hl, _ => by simp at hl
abbrev rListS : List V → Hp → VK → Prop := fun xs H Q => ∃ s : Str, xs = [.str s] ∧ s.length ≤ 100000 ∧ ∀ p, H p = none → Q (.ref p) (upd H p (.lst (s.cps.toList.map fun c => V.str ⟨#[c]⟩)))
theorem cr_listS {X : Cx} (hc : X.calm = true := by rfl) : CallR X (.type "list") rListS := by
  intro pins s σ H xs us Q I r h
  obtain ⟨x, rfl, hz, q⟩ := h
  obtain ⟨u, rfl, t, rfl⟩ := vals1 r
  have hs : x.cps.size ≤ sizeLine := by
    have := sz_of hz
    exact this
  refine call_list_str (I.ok.hd hc) x t (fun h' tk acc' c' hk hS hacc => ?_) hs
  have hl : (x.cps.toList.map fun c => V.str ⟨#[c]⟩).length ≤ sizeLine := by simpa using hs
  have rv : Vals (x.cps.toList.map fun c => V.str ⟨#[c]⟩) acc'.toList := vals_signs (x := x) _ _ (by simpa using hacc.1.symm) fun i c v h1 h2 => by
    obtain ⟨c', t', g1, g2⟩ := hacc.2 i v (by simpa using h2)
    have h1' : x.cps[i]? = some c := by simpa using h1
    rw [h1'] at g1
    cases g1
    exact ⟨t', g2⟩
  exact ⟨.ref _, _, I.laid (t' := tk) hk (Nat.le_refl _) (show ObjOk X.prog X.w _ h' _ (.lst (x.cps.toList.map fun c => V.str ⟨#[c]⟩)) from ⟨hl, acc'.toList, c', rv, hS⟩), rfl, q _ (I.hok.fresh (Nat.le_refl _))⟩
theorem cd_listS {s : Str} (h : s.length ≤ 100000) : CD rListS [dS s] (dLst K (s.cps.toList.map fun c => dS ⟨#[c]⟩)) := fun H vs h' Q q => by
  obtain ⟨v, rfl, e⟩ := all2_1 h'
  have e' : v = .str s := e
  subst e'
  exact ⟨s, rfl, h, fun p hp => q _ _ (Ex.new hp) ⟨p, _, rfl, upd_same, All2.of_vals (fun c : Nat => V.str ⟨#[c]⟩) _⟩⟩
def dNm : Dt := ⟨fun _ v => ∃ s, v = .str s ∧ IsName s, fun _ h => h⟩
def dWd (i : Nat) : Dt := ⟨fun _ v => ∃ s : Str, v = .str s ∧ s.length = i ∧ ∀ c ∈ s.cps.toList, isLow c, fun _ h => h⟩
def dName (ns : List Str) : Dt := ⟨fun _ v => ∃ s, v = .str s ∧ IsName s ∧ s ∉ ns, fun _ h => h⟩
theorem isName_of {s : Str} (h : (decide (1 ≤ s.length) && (decide (s.length ≤ 12) && s.cps.toList.all fun c => decide (97 ≤ c) && decide (c ≤ 122))) = true) : IsName s := by
  simp only [Bool.and_eq_true, decide_eq_true_eq, List.all_eq_true] at h
  exact ⟨h.1, h.2.1, fun c hc => h.2.2 c hc⟩
theorem nd_len {α : Type} [DecidableEq α] : ∀ {l m : List α}, l.Nodup → (∀ x ∈ l, x ∈ m) → l.length ≤ m.length
  | [], _, _, _ => Nat.zero_le _
  | x :: l, m, nd, h => by
    obtain ⟨h1, h2⟩ := List.nodup_cons.mp nd
    have hx := h x List.mem_cons_self
    have := nd_len (l := l) (m := m.erase x) h2 fun y hy => (List.mem_erase_of_ne (fun e : y = x => h1 (by rw [← e]; exact hy))).mpr (h y (List.mem_cons_of_mem _ hy))
    rw [List.length_erase_of_mem hx] at this
    have hp := List.length_pos_of_mem hx
    simp
    omega
section
variable {r r' r1 r2 : Rg} {ρ ρ1 ρ2 : Rho} {t s1 : TS} {o : OutM} {d : Dt}
theorem sm_env {ι : Type} {k : Nat} (f : ι → Dt) (Pι : ι → Prop) (hk : ρ[k]? = some (some d)) (hd : ∀ H v, d.P H v → ∃ i, Pι i ∧ (f i).P H v) (h : ∀ i, Pι i → Sm r t (ρ.set k (some (f i))) o) : Sm r t ρ o := fun H σ D e q => by
  obtain ⟨v, h1, h2⟩ := e.2.get hk
  obtain ⟨i, g1, g2⟩ := hd _ v h2
  exact h i g1 H σ D ⟨e.1, envok_ext h1 g2 e.2⟩ q
theorem sm_wkM (as : r2.as = r.as) (hj : ∀ H, r1.J H → r2.J H) (hρ : ∀ H σ, EnvOk H ρ1 σ → EnvOk H ρ2 σ) (h : Sm r s1 ρ (.nx r1 ρ1)) : Sm r s1 ρ (.nx r2 ρ2) := fun H σ D e k => h H σ D e fun σ' H' j e' en => k σ' H' (hj _ j) e' (hρ _ _ en)
theorem env_to {H : Hp} {σ : L2.St} {k : Nat} {d' : Dt} (hk : ρ[k]? = some (some d)) (hd : ∀ H v, d.P H v → d'.P H v) (h : EnvOk H ρ σ) : EnvOk H (ρ.set k (some d')) σ := by
  obtain ⟨v, h1, h2⟩ := h.get hk
  exact envok_ext h1 (hd _ _ h2) h
/-- for i in range(m), m of a range; what is known may change with the turns -/
theorem sm_forX {g : TG} {s1 : TS} {ta : TE} {lo hi : Int} {r0 rr rf : Rg} {ρf : Rho} (rs : Nat → Rg) (ρs : Nat → Rho) (as0 : rr.as = r0.as) (ha : ∀ i, (rs i).as = r0.as) (h : Em r0 rr ta (ρs 0) (dRng lo hi)) (hb : 0 ≤ lo ∧ hi ≤ 10000) (h0 : ∀ H, rr.J H → (rs 0).J H)
    (hf : ∀ (m : Nat) H, (m : Int) ≤ hi → lo ≤ (m : Int) → (rs m).J H → rf.J H) (hfe : ∀ (m : Nat) H σ, (m : Int) ≤ hi → lo ≤ (m : Int) → EnvOk H (ρs m) σ → EnvOk H ρf σ)
    (hs : ∀ i : Nat, (i : Int) < hi → ∃ ρ1, GdM g (dI (i : Int)) (ρs i) ρ1 ∧ Sm (rs i) s1 ρ1 (.nx (rs (i + 1)) (ρs (i + 1)))) : Sm r0 (tFor (iRng1 (tCons ta tNil)) g s1) (ρs 0) (.nx rf ρf) := fun H σ D e k => h H σ e _ fun v H1 j1 e1 ⟨m0, p1, hm0, hm1⟩ => by
  obtain ⟨m, rfl⟩ : ∃ m : Nat, m0 = (m : Int) := ⟨m0.toNat, by omega⟩
  subst p1
  have en := e.2
  refine ⟨(m : Int), rfl, by omega, by omega, ?_⟩
  rw [show ((m : Int)).toNat = m by omega]
  have w := walk_range (lo := 0) (n := m)
  refine ⟨fun i q σ2 H2 => q = m - i ∧ i ≤ m ∧ (rs i).J H2 ∧ Ex (hideL r0.as H) (hideL r0.as H2) ∧ EnvOk (hideL r0.as H2) (ρs i) σ2, ⟨_, rfl, Nat.zero_le _, h0 _ j1, e1, en.mono e1⟩, ?_⟩
  rintro i q σ2 H2 ⟨rfl, hi2, j2, e2, en2⟩
  by_cases hlt : i < m
  · right
    refine ⟨w.goes i H2 hlt trivial, fun σ' H' => (rs (i + 1)).J H' ∧ Ex (hideL r0.as H) (hideL r0.as H') ∧ EnvOk (hideL r0.as H') (ρs (i + 1)) σ', fun σ' H' ⟨a, b, c⟩ => ⟨_, by omega, rfl, hlt, a, b, c⟩, fun x H3 y => ?_⟩
    obtain ⟨rfl, hx⟩ := w.yields i H2 x H3 hlt trivial y
    have hx' : x = .int (i : Nat) := by
      have : x = .int (0 + i) := hx
      rw [Int.zero_add] at this
      exact this
    subst hx'
    obtain ⟨ρ1, hg, hb'⟩ := hs i (by omega)
    refine hg r0.as _ _ σ2 rfl en2 _ fun σ3 en3 => ?_
    refine hb' _ σ3 _ ⟨j2, by rw [ha]; exact en3⟩ fun σ' H' j' e' en' => ?_
    rw [ha] at e' en'
    exact ⟨j', e2.trans e', en'⟩
  · left
    have ei : i = m := by omega
    subst ei
    exact ⟨w.stops H2 trivial, k σ2 H2 (hf i H2 hm1 hm0 j2) e2 (hfe i _ σ2 hm1 hm0 en2)⟩
end
/-- word + letters[take] -/
theorem em_sign {r r' : Rg} {ρ : Rho} {tb : TE} {s : Str} (as : r'.as = r.as) (hs : s.length ≤ 100) (h : Em r r' tb ρ (dRng 0 ((s.length : Int) - 1))) : Em r r' (tOp rIxS (tC (.str s)) tb) ρ ⟨fun _ v => ∃ c, v = .str ⟨#[c]⟩ ∧ c ∈ s.cps.toList, fun _ h => h⟩ := fun H σ e Q q => h H σ e _ fun v H1 j1 e1 ⟨i, hi, h0, h1⟩ => by
  have hl := len_cps s
  have hg : s.cps.toList[i.toNat]? = some (s.cps.toList[i.toNat]'(by omega)) := List.getElem?_eq_getElem _
  exact ⟨s, i, _, rfl, hi, sz_of (by omega), atI_in h0 hg, q _ H1 j1 e1 ⟨_, rfl, List.getElem_mem _⟩⟩
theorem ed_notinLS {ρ : Rho} {ta tb : TE} {n : Str} {ss : List Str} (ha : Ed ta ρ (dS n)) (hb : Ed tb ρ (dLst K (ss.map fun s => dS s))) : Ed (tOp (rIn K true) ta tb) ρ (dB (!decide (n ∈ ss))) := ed_op ha hb fun H u v hu ⟨p, vs, a, b, c⟩ Q k => by
  have hu' : u = .str n := hu
  have hv := strs_all2 c
  subst hu' hv
  exact ⟨p, _, a, .inl (sq_of b), rfl, by rw [List.all_map]; exact List.all_eq_true.mpr fun _ _ => rfl, k _ H (Ex.refl H) (by rw [inV_strs]; rfl)⟩

end
end Sl
namespace Sl
open PySem PySem.Spec PyProof.Rows L2 StX RZ
open Evl (Ex ex_l ex_t ex_rd sq_of st_of sz_of sz_lt fresh_back)
local macro_rules | `(tactic| walk_at "sd") => `(tactic| first | assumption | omega | decide | (constructor <;> assumption) | (constructor <;> omega))
section
variable {P : Program} {w : World} {K : PySem.W.Frag} {mg : Str → Option Value} {base : Heap}

def words10 : List Str := ["class", "zooms", "far", "label", "put", "go", "a", "b", "x", "town"]
theorem words10_ok : ∀ s ∈ words10, IsName s := fun s hs => by
  simp only [words10, List.mem_cons, List.not_mem_nil, or_false] at hs
  rcases hs with rfl | rfl | rfl | rfl | rfl | rfl | rfl | rfl | rfl | rfl <;> exact isName_of (by decide +kernel)
def cands : List Str := (lowers.cps.toList.map fun c => (⟨#[c]⟩ : Str)) ++ (["aa", "bb", "cc", "dd", "ee"] : List Str)
theorem cands_eq : cands = ([("a" : Str), "b", "c", "d", "e", "f", "g", "h", "i", "j", "k", "l", "m", "n", "o", "p", "q", "r", "s", "t", "u", "v", "w", "x", "y", "z", "aa", "bb", "cc", "dd", "ee"] : List Str) := by decide +kernel
theorem cands_ok : ∀ s ∈ cands, IsName s := by
  have h : (cands.all fun s => decide (1 ≤ s.length) && (decide (s.length ≤ 12) && s.cps.toList.all fun c => decide (97 ≤ c) && decide (c ≤ 122))) = true := by decide +kernel
  exact fun s hs => isName_of (List.all_eq_true.mp h s hs)
theorem cands_free {ns : List Str} (h : ns.length ≤ 3) : ∃ s l, cands.filter (fun s => !decide (s ∈ ns)) = s :: l := by
  cases hf : cands.filter (fun s => !decide (s ∈ ns)) with
  | cons s l => exact ⟨s, l, rfl⟩
  | nil =>
    exfalso
    have hall : ∀ s ∈ cands, s ∈ ns := fun s hs => by
      have := List.filter_eq_nil_iff.mp hf s hs
      simpa using this
    have := nd_len (l := [("a" : Str), "b", "c", "d"]) (m := ns) (by decide +kernel) fun s hs => hall s (by
      rw [cands_eq]
      simp only [List.mem_cons, List.not_mem_nil, or_false] at hs
      rcases hs with rfl | rfl | rfl | rfl <;> simp)
    simp at this
    omega
theorem dNm_of {s : Str} (h : IsName s) : ∀ H v, (dS s).P H v → dNm.P H v := fun _ _ e => ⟨s, e, h⟩
theorem wd_snoc {i : Nat} {s : Str} {c : Nat} (h1 : s.length = i) (h2 : ∀ c ∈ s.cps.toList, isLow c) (hc : isLow c) : (s ++ (⟨#[c]⟩ : Str)).length = i + 1 ∧ ∀ d ∈ (s ++ (⟨#[c]⟩ : Str)).cps.toList, isLow d := by
  have e : (s ++ (⟨#[c]⟩ : Str)).cps.toList = s.cps.toList ++ [c] := TL.tl_append s ⟨#[c]⟩
  constructor
  · rw [len_cps, e, List.length_append, ← len_cps, h1]
    rfl
  · intro d hd
    rw [e] at hd
    rcases List.mem_append.mp hd with hd | hd
    · exact h2 d hd
    · rw [List.mem_singleton.mp hd]
      exact hc
section
variable {r r' r1 : Rg} {ρ ρ' : Rho} {ta tb : TE} {t : TS} {o : OutM} {d : Dt}
theorem sm_preE (hρ : ∀ H σ, EnvOk H ρ σ → EnvOk H ρ' σ) (h : Sm r t ρ' o) : Sm r t ρ o := fun H σ D e k => h H σ D ⟨e.1, hρ _ _ e.2⟩ k
theorem em_ixR2 {ds : List Dt} (as : r1.as = r.as) (ha : Em r r1 ta ρ (dLst K ds)) (hb : Em r1 r1 tb ρ (dRng 0 ((ds.length : Int) - 1))) (hn : 1 ≤ ds.length) : Em r r1 (tOp (rIxL K) ta tb) ρ (dOne ds) := fun H σ e Q q =>
  ha H σ e _ fun v H1 j1 e1 p1 => hb H1 σ (e.next as j1 e1) _ fun w H2 j2 e2 ⟨i, hi, h0, h1⟩ => by
    rw [as] at e2
    obtain ⟨p, vs, a, b, c⟩ := p1
    have hd : ds[i.toNat]? = some (ds[i.toNat]'(by omega)) := List.getElem?_eq_getElem _
    obtain ⟨u, hu, pu⟩ := (c.mono e2).get hd
    exact ⟨p, vs, i, u, a, hi, sq_of (hideL_ex _ _ (e2 _ _ b)), atI_in h0 hu, q u H2 j2 (e1.trans e2) ⟨_, List.getElem_mem _, pu⟩⟩
theorem em_addS {s : Str} {i k : Nat} (hk : ρ[k]? = some (some (dS s))) (h1 : s.length = i) (h2 : ∀ c ∈ s.cps.toList, isLow c) (hi : i ≤ 100) (hb : Em r r' tb ρ ⟨fun _ v => ∃ c, v = .str ⟨#[c]⟩ ∧ c ∈ lowers.cps.toList, fun _ h => h⟩) :
    Em r r' (tOp (fun x y H Q => ∃ i j, x = .str i ∧ y = .str j ∧ i.length + j.length ≤ sizeLine ∧ Q (.str (i ++ j)) H) (tVar k) tb) ρ (dWd (i + 1)) := fun H σ e Q q => by
  obtain ⟨v, hv, pv⟩ := e.2.get hk
  have pv' : v = .str s := pv
  subst pv'
  refine ⟨_, hv, hb H σ e _ fun w H1 j1 e1 ⟨c, hc, hm⟩ => ⟨s, ⟨#[c]⟩, rfl, hc, sz_of (by show s.length + 1 ≤ 100000; omega), q _ H1 j1 e1 ⟨_, rfl, ?_⟩⟩⟩
  exact wd_snoc h1 h2 (mem_lowers.mp hm)
end

/-! _law_name -/
def R_law_name (K : PySem.W.Frag) : List Dt → Rg → Rg → Dt → Prop := fun ds r r2 d => ∃ p : Addr, ∃ n : Nat, ∃ ns : List Str, (ns.length ≤ 3) ∧ (n < 90000) ∧ ds = [dV (.ref p), dLst K (ns.map fun s => dS s)] ∧ r = potR p n ∧ r2 = potR p (n + 20) ∧ d = dName ns
abbrev N_law_name : List Str := ["_law_pot_here", "_law_taken", "_law_way", "_law_word", "_law_turn", "_law_one"]
theorem sc_law_name : FnScope N_law_name ["_law_pot_here", "_law_taken"] (defScope s_law_name) := ⟨rfl, rfl, rfl, by decide +kernel, rfl, by decide +kernel, by decide +kernel⟩
theorem fn_law_name (T : Tx w K mg) : Fn0 P w K mg base 3 "_law_name" ["_law_pot_here", "_law_taken"] (spM (R_law_name K)) := by
  obtain ⟨fd, F⟩ := T.f_law_name
  have nd := sc_law_name.nd
  refine mk_fn T.g_law_name F.kp (fn_M F sc_law_name (by rintro _ _ _ _ ⟨p, n, ns, c0, c1, rfl, rfl, rfl, rfl⟩; rfl) (fun cdv A outer s H E hr => ?_)) (F.bindsN fun _ _ _ _ _ _ us hl => match us, hl with | [_, _], _ => rfl)
  have hu := hu_of hr
  have hu65 := hu65 hr
  refine ⟨_, (pss_cons (ps_set (i := 2) nd rfl (Or.inl rfl) (pe_callF (fn_law_take T) (hr.mono (by decide)) (pa_cons (pv 0) (pa_cons pe_int pa_nil)))) (pss_cons (ps_set (i := 3) nd rfl (Or.inl rfl) (pe_callF (fn_law_of T) hr (pa_cons (pv 0) (pa_cons (pe_lst (pa_cons pe_str (pa_cons pe_str (pa_cons pe_str (pa_cons pe_str (pa_cons pe_str (pa_cons pe_str (pa_cons pe_str (pa_cons pe_str (pa_cons pe_str (pa_cons pe_str pa_nil))))))))))) pa_nil)))) (pss_cons (ps_if (pt_cmpR op_gt (pv 2) pe_int (nomark _)) (pss_cons (ps_set (i := 3) nd rfl (Or.inl rfl) pe_str) (pss_one (ps_for PassesOwn.never rfl (pi_r1 T.b_range (pa_cons (pe_ix (ixK_list K) (pe_lst (pa_cons pe_int (pa_cons (pe_op op_add pe_int (pe_callF (fn_law_take T) (hr.mono (by decide)) (pa_cons (pv 0) (pa_cons pe_int pa_nil)))) (pa_cons pe_int pa_nil)))) (pe_op op_sub (pv 2) pe_int) (fun _ _ => rfl)) pa_nil)) (pg_name (i := 4) nd rfl (Or.inl rfl)) (pss_one (ps_set (i := 3) nd rfl (Or.inl rfl) (pe_op op_add_str (pv 3) (pe_ix ix_str pe_str (pe_callF (fn_law_take T) (hr.mono (by decide)) (pa_cons (pv 0) (pa_cons pe_int pa_nil))) (fun _ _ => rfl)))))))) pss_nil) (pss_cons (ps_if (pt_cmpR (opK_notIn K) (pv 3) (pv 1) (by rfl)) (pss_one (ps_ret (pv 3))) pss_nil) (pss_one (ps_ret (pe_ix (ixK_list K) (pe_lc (own := [("_law_one", 5)]) (by rfl) nd (pi_listK K (pe_op op_cat (pe_bt cr_listS T.b_list (by decide +kernel) (pa_cons pe_str pa_nil)) (pe_lst (pa_cons pe_str (pa_cons pe_str (pa_cons pe_str (pa_cons pe_str (pa_cons pe_str pa_nil)))))))) (blkOk_by (N := N_law_name) (sc := defScope s_law_name) (by decide +kernel)) (fun _ _ _ _ _ => (pg_name (i := 5) nd rfl (Or.inl rfl))) (fun _ _ _ _ _ => pts_one (pt_cmpR (opK_notIn K) (pv 5) (pv 1) (by rfl))) (fun _ _ _ _ _ => (pv 5))) pe_int (fun _ _ => rfl)))))))), ?_⟩
  rintro _ _ _ _ ⟨p, n, ns, c0, c1, rfl, rfl, rfl, rfl⟩
  have hcall := fun (q : Nat) (hq : q < 95000) (u : Int) (hu : 1 ≤ u ∧ u ≤ 100) (ρ : Rho) (h : ρ[0]? = some (some (dV (.ref p)))) => em_call (E := E0) (R := R_law_take K) (r := potR p q) (r1 := potR p q) (r' := potR p (q + 1)) (ρ := ρ) (d := dRng 0 (u - 1)) (tt := tCons (tVar 0) (tCons (tC (.int u)) tNil)) rfl (ema_cons rfl (em_var h) (ema_cons rfl (em_e ed_c hidr_V) ema_nil)) ⟨p, q, u, ⟨hu.1, by omega⟩, by omega, rfl, rfl, rfl, rfl⟩
  refine sm_seq (r1 := potR p (n + 1)) rfl (sm_set (r' := potR p (n + 1)) rfl (hcall n (by omega) 4 (by decide) _ rfl)) ?_
  refine sm_seq (r1 := potR p (n + 2)) rfl (sm_set (r' := potR p (n + 2)) (d := dNm) rfl (em_wk (d := dOne (words10.map fun s => dS s)) (em_call (r1 := potR p (n + 1)) rfl (ema_cons rfl em_var (ema_cons rfl (em_lst (K := K) rfl (ema_cons rfl (em_e ed_c hidr_V) (ema_cons rfl (em_e ed_c hidr_V) (ema_cons rfl (em_e ed_c hidr_V) (ema_cons rfl (em_e ed_c hidr_V) (ema_cons rfl (em_e ed_c hidr_V) (ema_cons rfl (em_e ed_c hidr_V) (ema_cons rfl (em_e ed_c hidr_V) (ema_cons rfl (em_e ed_c hidr_V) (ema_cons rfl (em_e ed_c hidr_V) (ema_cons rfl (em_e ed_c hidr_V) ema_nil)))))))))) (by decide)) ema_nil)) ⟨p, n + 1, _, by decide, by omega, rfl, rfl, rfl, rfl⟩) (fun H v ⟨d, hd, pd⟩ => by
    obtain ⟨s, hs, rfl⟩ := List.mem_map.mp hd
    exact ⟨s, pd, words10_ok s hs⟩))) ?_
  refine sm_env (k := 2) (d := dRng 0 (4 - 1)) (f := fun i : Int => dI i) (fun i => 0 ≤ i ∧ i ≤ 3) rfl (fun H v ⟨i, h1, h2, h3⟩ => ⟨i, ⟨h2, by omega⟩, h1⟩) fun i hi => ?_
  refine sm_seq (r1 := potR p (n + 20)) (ρ1 := [some (dV (.ref p)), some (dLst K (ns.map fun s => dS s)), some (dI i), some dNm, none, none]) rfl (sm_if (a := decide (0 < i)) rfl (tm_e (td_test (ed_gt (ed_var (i := 2)) ed_c))) (fun hb => ?_) (fun hb => sm_wkM rfl (fun H j => potR_le (by omega) j) (fun H σ e => e) sm_next)) ?_
  · have hi1 := of_decide_eq_true hb
    refine sm_seq (ρ1 := [some (dV (.ref p)), some (dLst K (ns.map fun s => dS s)), some (dI i), some (dS ""), none, none]) rfl (sm_set rfl (em_e ed_c hidr_V)) ?_
    refine sm_preE (ρ' := [some (dV (.ref p)), some (dLst K (ns.map fun s => dS s)), some (dI i), some (dWd 0), none, none]) (fun H σ e => env_to (k := 3) (d := dS "") (d' := dWd 0) rfl (fun H v h => ⟨_, h, rfl, fun c hc => by rw [show ("" : Str).cps.toList = [] by decide +kernel] at hc; cases hc⟩) e) ?_
    refine sm_forX (lo := 1) (hi := 12) (rr := potR p (n + 3)) (fun m => potR p (n + 3 + m)) (fun m => [some (dV (.ref p)), some (dLst K (ns.map fun s => dS s)), some (dI i), some (dWd m), none, none]) rfl (fun _ => rfl) (em_wk (d := dOne [dI 1, dRng (1 + 0) (1 + (12 - 1)), dI 12]) (em_ixR2 (K := K) (r1 := potR p (n + 3)) rfl (em_lst (K := K) (r' := potR p (n + 3)) rfl (ema_cons (r1 := potR p (n + 2)) rfl (em_e ed_c hidr_V) (ema_cons (r1 := potR p (n + 3)) rfl (em_addR (hcall (n + 2) (by omega) 12 (by decide) _ rfl)) (ema_cons rfl (em_e ed_c hidr_V) ema_nil))) (by simp)) (em_e (ed_rng (ed_sub (ed_var (i := 2)) ed_c) (by simp; omega)) (fun _ _ _ h => h)) (by simp)) (fun H v ⟨d, hd, pd⟩ => by
      simp only [List.mem_cons, List.not_mem_nil, or_false] at hd
      rcases hd with rfl | rfl | rfl
      · exact ⟨1, pd, by decide, by decide⟩
      · obtain ⟨b, h1, h2, h3⟩ := pd
        exact ⟨b, h1, by omega, by omega⟩
      · exact ⟨12, pd, by decide, by decide⟩)) (by decide) (fun H j => j) (fun m H h1 h2 j => potR_le (by omega) j) (fun m H σ h1 h2 e => env_to (k := 3) (d := dWd m) (d' := dNm) rfl (fun H v ⟨s, g1, g2, g3⟩ => ⟨s, g1, by omega, by omega, g3⟩) e) (fun k hk => ⟨_, gdm_name, ?_⟩)
    refine sm_env (k := 3) (d := dWd k) (f := fun s : Str => dS s) (fun s => s.length = k ∧ ∀ c ∈ s.cps.toList, isLow c) rfl (fun H v ⟨s, h1, h2⟩ => ⟨s, h2, h1⟩) fun s hs => ?_
    exact sm_wk rfl (sm_set (r' := potR p (n + 3 + (k + 1))) rfl (em_addS (k := 3) rfl hs.1 hs.2 (by omega) (em_sign (s := lowers) rfl (by rw [lowers_len]; decide) (by rw [lowers_len]; exact hcall (n + 3 + k) (by omega) 26 (by decide) _ rfl)))) (wk_c (wk_c (wk_c (wk_c (wk_n (wk_c wk_0))))))
  · refine sm_env (k := 3) (d := dNm) (f := fun s : Str => dS s) (fun s => IsName s) rfl (fun H v ⟨s, h1, h2⟩ => ⟨s, h2, h1⟩) fun s hs => ?_
    refine sm_ifR rfl (tm_e (td_test (ed_notinLS (K := K) (ed_var (i := 3)) (ed_var (i := 1))))) (fun hb => ?_) (fun hb => ?_)
    · exact sm_post (r1 := potR p (n + 20)) (d := dS s) (fun H j => j) (fun H v h => ⟨s, h, hs, by simpa using hb⟩) (sm_ret (em_var (i := 3)))
    · obtain ⟨x, l, hx⟩ := cands_free c0
      have hxm : x ∈ cands.filter (fun s => !decide (s ∈ ns)) := by rw [hx]; exact List.mem_cons_self
      obtain ⟨hx1, hx2⟩ := List.mem_filter.mp hxm
      refine sm_post (r1 := potR p (n + 20)) (d := dS x) (fun H j => j) (fun H v h => ⟨x, h, cands_ok x hx1, by simpa using hx2⟩) (sm_ret (em_e ?_ hidr_V))
      refine ed_ixL (K := K) (ed_lc (K := K) cands (fun s => dS s) (fun s => !decide (s ∈ ns)) (fun s => dS s) (wd_list (ed_is (ed_catL (ed_cb (eda_cons ed_c eda_nil) (cd_listS (s := lowers) (by rw [lowers_len]; decide))) (ed_lst (eda_cons ed_c (eda_cons ed_c (eda_cons ed_c (eda_cons ed_c (eda_cons ed_c eda_nil))))) (by simp)) (by simp; decide +kernel)) (by unfold cands; rw [List.map_append, List.map_map]; rfl))) (by decide +kernel) (by decide) (fun _ _ _ => imm_V _) fun s hs => ⟨_, gd_name, td_test (ed_notinLS (K := K) ed_var ed_var), fun _ => ed_var⟩) ed_c (atI_in (by decide) (by rw [hx]; rfl))

end
end Sl
namespace Sl
open PySem PySem.Spec PyProof.Rows L2 StX RZ
open Evl (Ex ex_l ex_t ex_rd sq_of st_of sz_of sz_lt fresh_back)
local macro_rules | `(tactic| walk_at "sd") => `(tactic| first | assumption | omega | decide | (constructor <;> assumption) | (constructor <;> omega))
section
variable {P : Program} {w : World} {K : PySem.W.Frag} {mg : Str → Option Value} {base : Heap}

def pairsTo (m i : Nat) : List (Int × Int) := (List.range i).flatMap fun a => (List.range (m - a)).map fun (d : Nat) => ((a : Int), (a : Int) + (d : Int))
def pairsN (m : Nat) : List (Int × Int) := pairsTo m m
theorem pairsTo_succ (m i : Nat) : pairsTo m (i + 1) = pairsTo m i ++ (List.range (m - i)).map fun (d : Nat) => ((i : Int), (i : Int) + (d : Int)) := by
  unfold pairsTo
  rw [List.range_succ, List.flatMap_append]
  simp
theorem pairsTo_len {m i : Nat} (h : m ≤ 4) (hi : i ≤ m) : (pairsTo m i).length ≤ 4 * i := by
  induction i with
  | zero => simp [pairsTo]
  | succ i ih =>
    rw [pairsTo_succ, List.length_append, List.length_map, List.length_range]
    have := ih (by omega)
    omega

/-! _law_pairs -/
def R_law_pairs (K : PySem.W.Frag) : List Dt → Dt → Prop := fun ds d => ∃ m : Nat, (m ≤ 4) ∧ ds = [dI (m : Int)] ∧ d = dLst K ((pairsN m).map fun p => nTupI (pairI p))
abbrev N_law_pairs : List Str := ["_law_many", "_law_found", "_law_i", "_law_j"]
theorem sc_law_pairs : FnScope N_law_pairs ["_law_many"] (defScope s_law_pairs) := ⟨rfl, rfl, rfl, by decide +kernel, rfl, by decide +kernel, by decide +kernel⟩
theorem fn_law_pairs (T : Tx w K mg) : Fn0 P w K mg base 1 "_law_pairs" ["_law_many"] (spP (R_law_pairs K)) := by
  obtain ⟨fd, F⟩ := T.f_law_pairs
  have nd := sc_law_pairs.nd
  refine mk_fn T.g_law_pairs F.kp (fn_pure F sc_law_pairs (by rintro _ _ ⟨m, c0, rfl, rfl⟩; rfl) (fun cdv A outer s H E hr => ?_)) (F.bindsN fun _ _ _ _ _ _ us hl => match us, hl with | [_], _ => rfl)
  have hu := hu_of hr
  have hu65 := hu65 hr
  refine ⟨_, (pss_cons (ps_set (i := 1) nd rfl (Or.inl rfl) (pe_lst pa_nil)) (pss_cons (ps_for PassesOwn.never rfl (pi_r1 T.b_range (pa_cons (pv 0) pa_nil)) (pg_name (i := 2) nd rfl (Or.inr rfl)) (pss_one (ps_expr (pe_bm PySem.F.plainAttrs_list PySem.F.slot_list_extend PySem.F.type_list_extend mt_extend (pv 1) (pa_cons (pe_lc (own := [("_law_j", 3)]) (by rfl) nd (pi_r2 T.b_range (pa_cons (pv 2) (pa_cons (pv 0) pa_nil))) (blkOk_by (N := N_law_pairs) (sc := defScope s_law_pairs) (by decide +kernel)) (fun _ _ _ _ _ => (pg_name (i := 3) nd rfl (Or.inl rfl))) (fun _ _ _ _ _ => pts_nil) (fun _ _ _ _ _ => (pe_tup (pa_cons (pv 2) (pa_cons (pv 3) pa_nil))))) pa_nil))))) (pss_one (ps_ret (pv 1))))), ?_⟩
  rintro _ _ ⟨m, c0, rfl, rfl⟩
  refine sd_own (K := K) (s1_seq (s1_for (fun i => (((pairsTo m i).map fun p => nTupI (pairI p)), [some (dI (m : Int)), none, none, none], List.replicate 4 none)) rfl (wdb_r1 (eda_cons ed_var eda_nil) rfl (by omega)) fun i d hd => ?_) (s1_ret ?_)) (by show 1 < 4; decide)
  · have hi : i < m := by have := (List.getElem?_eq_some_iff.mp hd).1; simpa using this
    have hd' : d = dI (i : Int) := by
      rw [List.getElem?_map, List.getElem?_range hi] at hd
      exact (Option.some.inj hd).symm
    subst hd'
    have hlen := pairsTo_len c0 (i := i) (by omega)
    refine ⟨_, _, gdi_name (imm_V _), s1_wk (s1_is (s1_ext (es := (List.range (m - i)).map fun (d : Nat) => nTupI (pairI ((i : Int), (i : Int) + (d : Int)))) ?_ ?_ ?_) ?_) (wk_c (wk_c (wk_c (wk_c wk_0)))) (wk_c (wk_c (wk_n (wk_c wk_0)))) ?_⟩
    · refine ed_lc0 (K := K) (List.range (m - i)) (fun d : Nat => dI ((i : Int) + (d : Int))) (fun d : Nat => nTupI (pairI ((i : Int), (i : Int) + (d : Int)))) (wd_range2 (eda_is (eda_cons ed_var (eda_cons ed_var eda_nil)) (by congr 2; congr 1; omega)) (by omega)) (by rw [List.length_range]; omega) (by decide) (fun _ _ => imm_nTupI _) fun d _ => ⟨_, gd_name, ed_tupN (eda_cons ed_var (eda_cons ed_var eda_nil)) (by simp [pairI])⟩
    · intro d hd
      obtain ⟨_, _, rfl⟩ := List.mem_map.mp hd
      exact imm_nTupI _
    · rw [List.length_map, List.length_map, List.length_range]
      omega
    · rw [pairsTo_succ, List.map_append, List.map_map]
      rfl
    · intro d hd
      simp at hd
  · rw [List.length_map, List.length_range]
    exact ed_var (i := 1)

end
end Sl
namespace Sl
open PySem PySem.Spec PyProof.Rows L2 StX RZ
open Evl (Ex ex_l ex_t ex_rd sq_of st_of sz_of sz_lt fresh_back)
local macro_rules | `(tactic| walk_at "sd") => `(tactic| first | assumption | omega | decide | (constructor <;> assumption) | (constructor <;> omega))
section
variable {P : Program} {w : World} {K : PySem.W.Frag} {mg : Str → Option Value} {base : Heap}

theorem hideL_exS {as bs : List Addr} {H H' : Hp} (sub : ∀ a ∈ as, a ∈ bs) (e : Ex (hideL as H) (hideL as H')) : Ex (hideL bs H) (hideL bs H') := fun b o hb => by
  have hnb : b ∉ bs := fun hm => by rw [hideL_in hm] at hb; cases hb
  rw [hideL_at hnb] at hb ⊢
  have := e b o (by rw [hideL_at fun hm => hnb (sub b hm)]; exact hb)
  rw [hideL_at fun hm => hnb (sub b hm)] at this
  exact this
section
variable {r r' r1 rs rs' r3 : Rg} {ρ ρ' : Rho} {ta tb te : TE} {tt : TA} {d : Dt} {ds : List Dt}
/-- what is done in a part of the region -/
theorem em_frame (h : Em rs rs' te ρ' d) (sub : ∀ a ∈ rs.as, a ∈ r.as) (ok : ∀ H σ, r.Ok H ρ σ → rs.Ok H ρ' σ) (j2 : ∀ H H', r.J H → rs'.J H' → Ex (hideL rs.as H) (hideL rs.as H') → r'.J H') (hd : ∀ H v, r'.J H → d.P (hideL rs.as H) v → d.P (hideL r.as H) v) : Em r r' te ρ d := fun H σ e Q q => h H σ (ok H σ e) _ fun v H1 j1 e1 p1 => by
  have jb := j2 H H1 e.1 j1 e1
  exact q v H1 jb (hideL_exS sub e1) (hd H1 v jb p1)
theorem em_tup (as : r'.as = r.as) (h : EmA r r' tt ρ ds) (hl : ds.length ≤ 100000) : Em r r' (tTup tt) ρ (dTup K ds) := fun H σ e Q q =>
  h H σ e _ fun vs H1 j1 e1 p1 => ⟨sz_of (by rw [← p1.len]; exact hl), fun p hp => by
    have hn : p ∉ r.as := fun hm => r'.live j1 p (by rw [as]; exact hm) hp
    have e2 : Ex (hideL r.as H1) (hideL r.as (upd H1 p (.tup vs))) := hideL_mono (Ex.new hp)
    exact q _ _ (r'.mono (Ex.new hp) j1) (e1.trans e2) ⟨p, vs, rfl, st_of (by rw [hideL_at hn]; exact upd_same), p1.mono e2⟩⟩
theorem em_addV {a lo hi : Int} (ha : Ed ta ρ (dI a)) (as : r'.as = r.as) (h : Em r r' tb ρ (dRng lo hi)) : Em r r' (tOp rAddI ta tb) ρ (dRng (a + lo) (a + hi)) := fun H σ e Q q => ha H σ (rg_same H σ e) _ fun u H0 e0 pu => h H0 σ (e.next rfl (r.mono e0 e.1) (hideL_mono e0)) _ fun v H1 j1 e1 ⟨i, hi, h0, h1⟩ => ⟨a, i, pu, hi, q _ H1 j1 ((hideL_mono e0).trans e1) ⟨a + i, rfl, by omega, by omega⟩⟩
/-- x, y = [], []; ..; return x -/
theorem sm_own2 {R2 R3 : Addr → Addr → Rg} {ρ3 : Addr → Addr → Rho} {k m : Nat} {s2 : TS} (as2 : ∀ f g, (R2 f g).as = g :: f :: r.as) (as3 : ∀ f g, (R3 f g).as = g :: f :: r.as) (hkm : m ≠ k)
    (hj : ∀ f g H, r.J H → f ∉ r.as → g ∉ r.as → g ≠ f → r.J (upd (upd H f (.lst [])) g (.lst [])) → (R2 f g).J (upd (upd H f (.lst [])) g (.lst [])))
    (hs : ∀ f g, f ∉ r.as → g ∉ r.as → g ≠ f → Sm (R2 f g) s2 ((ρ.set k (some (dV (.ref f)))).set m (some (dV (.ref g)))) (.nx (R3 f g) (ρ3 f g))) (hk : ∀ f g, (ρ3 f g)[k]? = some (some (dV (.ref f))))
    (h3 : ∀ f g H, f ∉ r.as → (R3 f g).J H → r3.J H ∧ d.P (hideL r.as H) (.ref f)) : Sm r (tSeq (tPar k m (tCons (tLst tNil) (tCons (tLst tNil) tNil))) (tSeq s2 (tRet (tVar k)))) ρ (.ret r3 d) := fun H σ D e q =>
  ⟨by show 0 ≤ _; omega, fun f hf => ⟨by show 0 ≤ _; omega, fun g hg => ⟨_, _, rfl, by
    have hna : f ∉ r.as := fun hm => r.live e.1 f hm hf
    have hgf : g ≠ f := fun z => by rw [z, upd_same] at hg; cases hg
    have hg' : H g = none := by rw [upd_ne hgf] at hg; exact hg
    have hnb : g ∉ r.as := fun hm => r.live e.1 g hm hg'
    have ex : Ex H (upd (upd H f (.lst [])) g (.lst [])) := (Ex.new hf).trans (Ex.new hg)
    have j2 := hj f g H e.1 hna hnb hgf (r.mono ex e.1)
    have e2 : Ex (hideL r.as H) (hideL (g :: f :: r.as) (upd (upd H f (.lst [])) g (.lst []))) := fun b o hb => by
      have hnb : b ∉ r.as := fun hm => by rw [hideL_in hm] at hb; cases hb
      rw [hideL_at hnb] at hb
      have hbf : b ≠ f := fun z => by rw [z, hf] at hb; cases hb
      have hbg : b ≠ g := fun z => by rw [z, hg'] at hb; cases hb
      rw [hideL_at (by simp [hbf, hbg, hnb]), upd_ne hbg, upd_ne hbf]
      exact hb
    have en : EnvOk (hideL (R2 f g).as (upd (upd H f (.lst [])) g (.lst []))) ((ρ.set k (some (dV (.ref f)))).set m (some (dV (.ref g)))) ((σ.set k (some (.ref f))).set m (some (.ref g))) := by
      rw [as2]
      exact EnvOk.set (d := dV (.ref g)) rfl m (EnvOk.set (d := dV (.ref f)) rfl k (e.2.mono e2))
    refine hs f g hna hnb hgf _ _ _ ⟨j2, en⟩ fun σ' H' j' e' en' => ?_
    rw [as2] at e' en'
    obtain ⟨v, h1, h2⟩ := en'.get (hk f g)
    have h2' : v = .ref f := h2
    subst h2'
    obtain ⟨g1, g2⟩ := h3 f g H' hna j'
    have e3 : Ex (hideL (g :: f :: r.as) H') (hideL r.as H') := hideL_sub fun a ha => List.mem_cons_of_mem _ (List.mem_cons_of_mem _ ha)
    exact ⟨_, h1, q _ H' g1 ((e2.trans e').trans e3) g2⟩⟩⟩⟩
end
/-- the pot, the classes found, their names -/
def clR (K : PySem.W.Frag) (p : Addr) (n : Nat) (f g : Addr) (rows : List Row) (ns : List Str) : Rg where
  as := [g, f, p]
  J := fun H => (potR p n).J H ∧ (∃ vs, H f = some (.lst vs) ∧ All2 (hideL [g, f, p] H) (rows.map (clsD K)) vs) ∧ H g = some (.lst (ns.map V.str)) ∧ f ≠ p ∧ g ≠ p ∧ g ≠ f
  mono := fun e ⟨h1, ⟨vs, h2, h3⟩, h4, h5⟩ => ⟨(potR p n).mono e h1, ⟨vs, e _ _ h2, h3.mono (hideL_mono e)⟩, e _ _ h4, h5⟩
  live := fun ⟨h1, ⟨vs, h2, h3⟩, h4, h5⟩ b hb => by
    simp only [List.mem_cons, List.not_mem_nil, or_false] at hb
    rcases hb with rfl | rfl | rfl
    · rw [h4]
      exact fun z => by cases z
    · rw [h2]
      exact fun z => by cases z
    · exact (potR b n).live h1 b (by simp [potR])
def RowsOk (z : Int) (rows : List Row) : Prop := (∀ r ∈ rows, r.Ok (z - 1) ∧ GoodSizes r.sizes) ∧ (rows.map Row.name).Nodup
def dClasses (K : PySem.W.Frag) (z : Int) : Dt := ⟨fun H v => ∃ rows, RowsOk z rows ∧ 1 ≤ rows.length ∧ rows.length ≤ 4 ∧ (dLst K (rows.map (clsD K))).P H v, fun e ⟨rows, h1, h2, h3, h4⟩ => ⟨rows, h1, h2, h3, Dt.mono _ e h4⟩⟩
def clX (K : PySem.W.Frag) (p : Addr) (n : Nat) (f g : Addr) (z : Int) (i : Nat) : Rg where
  as := [g, f, p]
  J := fun H => ∃ rows, RowsOk z rows ∧ rows.length = i ∧ (clR K p n f g rows (rows.map Row.name)).J H
  mono := fun e ⟨rows, h1, h2, h3⟩ => ⟨rows, h1, h2, (clR K p n f g rows (rows.map Row.name)).mono e h3⟩
  live := fun ⟨rows, h1, h2, h3⟩ b hb => (clR K p n f g rows (rows.map Row.name)).live h3 b hb
def clN (K : PySem.W.Frag) (p : Addr) (n : Nat) (f g : Addr) (rows : List Row) : Rg where
  as := [g, f, p]
  J := fun H => ∃ s, IsName s ∧ s ∉ rows.map Row.name ∧ (clR K p n f g rows (rows.map Row.name ++ [s])).J H
  mono := fun e ⟨s, h1, h2, h3⟩ => ⟨s, h1, h2, (clR K p n f g rows (rows.map Row.name ++ [s])).mono e h3⟩
  live := fun ⟨s, h1, h2, h3⟩ b hb => (clR K p n f g rows (rows.map Row.name ++ [s])).live h3 b hb
def clF (K : PySem.W.Frag) (p : Addr) (n : Nat) (f g : Addr) (z : Int) : Rg where
  as := [g, f, p]
  J := fun H => ∃ i, 1 ≤ i ∧ i ≤ 4 ∧ (clX K p n f g z i).J H
  mono := fun e ⟨i, h1, h2, h3⟩ => ⟨i, h1, h2, (clX K p n f g z i).mono e h3⟩
  live := fun ⟨i, h1, h2, h3⟩ b hb => (clX K p n f g z i).live h3 b hb
section
variable {p f g : Addr} {n q q' : Nat} {rows : List Row} {ns : List Str} {ρ : Rho} {te : TE} {d : Dt}
theorem cl_le (h : q ≤ q') {H : Hp} (j : (clR K p q f g rows ns).J H) : (clR K p q' f g rows ns).J H := ⟨potR_le h j.1, j.2⟩
theorem cl_fr (hg : ρ[4]? = some (some (dV (.ref g)))) (h : Em (potR p q) (potR p q') te (ρ.set 4 (some (dLst K (ns.map fun s => dS s)))) d) (hd : HidL d) : Em (clR K p q f g rows ns) (clR K p q' f g rows ns) te ρ d :=
  em_frame h (fun a ha => by rw [List.mem_singleton.mp ha]; simp [clR]) (fun H σ ⟨j, e⟩ => ⟨j.1, by
    obtain ⟨v, h1, h2⟩ := e.get hg
    have h2' : v = .ref g := h2
    subst h2'
    have hn : g ∉ (potR p q).as := by simpa [potR] using j.2.2.2.2.1
    exact envok_ext h1 ⟨g, _, rfl, by rw [hideL_at hn]; exact j.2.2.1, All2.of_vals (fun s => V.str s) ns⟩ (e.mono (hideL_sub fun a ha => by rw [List.mem_singleton.mp ha]; simp [clR]))⟩)
    (fun H H' ⟨j1, ⟨vs, j2, j3⟩, j4, j5, j6, j7⟩ j' e => by
      have hp : ∀ a, a ≠ p → ∀ o, H a = some o → H' a = some o := fun a ha o ho => by
        have hn : a ∉ (potR p q).as := by simpa [potR] using ha
        have := e a o (by rw [hideL_at hn]; exact ho)
        rw [hideL_at hn] at this
        exact this
      exact ⟨j', ⟨vs, hp f j5 _ j2, j3.mono (hideL_exS (fun a ha => by rw [List.mem_singleton.mp ha]; simp) e)⟩, hp g j6 _ j4, j5, j6, j7⟩)
    fun H v ⟨j1, ⟨vs, j2, j3⟩, j4, j5, j6, j7⟩ pv => hd H _ v (fun a ha => by
      simp only [clR, List.mem_cons, List.not_mem_nil, or_false] at ha
      rcases ha with rfl | rfl | rfl
      · exact ⟨_, j4, (fun _ e => nomatch e), (fun _ _ e => nomatch e), (fun _ _ _ e => nomatch e)⟩
      · exact ⟨_, j2, (fun _ e => nomatch e), (fun _ _ e => nomatch e), (fun _ _ _ e => nomatch e)⟩
      · exact rng_soft j1 a (by simp [potR])) (d.mono hideL_ex pv)
theorem cl_addN {H : Hp} {s : Str} (j : (clR K p q f g rows ns).J H) : (clR K p q f g rows (ns ++ [s])).J (upd H g (.lst (ns.map V.str ++ [.str s]))) := by
  obtain ⟨⟨x, y, z, k1, k2⟩, ⟨vs, j2, j3⟩, j4, j5, j6, j7⟩ := j
  exact ⟨⟨x, y, z, by rw [upd_ne (Ne.symm j6)]; exact k1, k2⟩, ⟨vs, by rw [upd_ne (Ne.symm j7)]; exact j2, by rw [hideL_upd (by simp)]; exact j3⟩, by rw [upd_same, List.map_append]; rfl, j5, j6, j7⟩
theorem cl_addR {H : Hp} {r : Row} {v : V} {vs : List V} (j : (clR K p q f g rows ns).J H) (hv : H f = some (.lst vs)) (pv : (clsD K r).P (hideL [g, f, p] H) v) : (clR K p q f g (rows ++ [r]) ns).J (upd H f (.lst (vs ++ [v]))) := by
  obtain ⟨⟨x, y, z, k1, k2⟩, ⟨vs', j2, j3⟩, j4, j5, j6, j7⟩ := j
  rw [hv] at j2
  cases j2
  exact ⟨⟨x, y, z, by rw [upd_ne (Ne.symm j5)]; exact k1, k2⟩, ⟨_, upd_same, by rw [hideL_upd (by simp), List.map_append]; exact j3.app ⟨pv, True.intro⟩⟩, by rw [upd_ne j7]; exact j4, j5, j6, j7⟩
theorem at_lastS {ns : List Str} {a : Str} : atI ((ns ++ [a]).map fun n => dS n) (-1) = some (dS a) := by
  unfold atI
  have hx : ixN ((ns ++ [a]).map fun n => dS n).length (-1) = some ns.length := by
    rw [List.length_map, List.length_append]
    unfold ixN
    simp
    omega
  rw [hx]
  show ((ns ++ [a]).map fun n => dS n)[ns.length]? = _
  rw [List.getElem?_map, List.getElem?_append_right (Nat.le_refl _)]
  simp
theorem hidL_wk1 {lo hi : Int} : HidL (dRng lo hi) := hidL_rng
/-- the row of a class that was found -/
def dNew (K : PySem.W.Frag) (s : Str) (z : Int) : Dt := ⟨fun H v => ∃ r : Row, r.name = s ∧ r.Ok (z - 1) ∧ GoodSizes r.sizes ∧ (clsD K r).P H v, fun e ⟨r, h1, h2, h3, h4⟩ => ⟨r, h1, h2, h3, Dt.mono _ e h4⟩⟩
theorem hidL_cls {r : Row} : HidL (clsD K r) := hidL_tup fun d hd => by
  simp only [List.mem_cons, List.not_mem_nil, or_false] at hd
  rcases hd with rfl | rfl | rfl | rfl | rfl
  · exact hidL_V
  · exact hidL_V
  · exact hidL_V
  · exact hidL_V
  · exact hidL_tupI
theorem hidL_new {s : Str} {z : Int} : HidL (dNew K s z) := fun H as v w ⟨r, h1, h2, h3, h4⟩ => ⟨r, h1, h2, h3, hidL_cls H as v w h4⟩
theorem new_of {s : Str} {a b c z : Int} {H : Hp} {v : V} (hs : IsName s) (ha : 0 ≤ a ∧ a ≤ z - 1) (hb : 1 ≤ b ∧ b ≤ z - a) (hc : 1 ≤ c ∧ c ≤ 9) (h : (dTup K [dS s, dI a, dI c, dRng (c + 0) (c + (4 - 1)), dSizes K b.toNat]).P H v) : (dNew K s z).P H v := by
  obtain ⟨p, vs, e, q, hv⟩ := h
  have hl := hv.len
  rcases vs with _ | ⟨v1, _ | ⟨v2, _ | ⟨v3, _ | ⟨v4, _ | ⟨v5, _ | ⟨v6, vs⟩⟩⟩⟩⟩⟩
  · cases hl
  · cases hl
  · cases hl
  · cases hl
  · cases hl
  · have k1 := hv.1
    have k2 := hv.2.1
    have k3 := hv.2.2.1
    have k4 := hv.2.2.2.1
    have k5 := hv.2.2.2.2.1
    obtain ⟨m, m1, m2, m3⟩ := k4
    obtain ⟨ns, n1, n2, n3⟩ := k5
    have o : (⟨s, a, c, m, ns⟩ : Row).Ok (z - 1) := {
      nm := hs
      f0 := ha.1
      l0 := hc.1
      l9 := hc.2
      m0 := by show c ≤ m; omega
      m3 := by show m ≤ c + 3; omega
      s1 := n1.1
      sl := by show a + (ns.length : Int) - 1 ≤ z - 1; omega
      sz := n1.2.2.1 }
    have hv' : All2 H [dS s, dI a, dI c, dI m, tupI K ns] [v1, v2, v3, v4, v5] := ⟨k1, k2, k3, m1, n3, True.intro⟩
    exact ⟨⟨s, a, c, m, ns⟩, rfl, o, n1, p, [v1, v2, v3, v4, v5], e, q, hv'⟩
  · simp at hl
theorem rows_snoc {z : Int} {r : Row} (h : RowsOk z rows) (h1 : r.Ok (z - 1)) (h2 : GoodSizes r.sizes) (h3 : r.name ∉ rows.map Row.name) : RowsOk z (rows ++ [r]) := by
  constructor
  · intro x hx
    rcases List.mem_append.mp hx with hx | hx
    · exact h.1 x hx
    · rw [List.mem_singleton.mp hx]
      exact ⟨h1, h2⟩
  · rw [List.map_append, List.nodup_append]
    refine ⟨h.2, by simp, fun a ha b hb => ?_⟩
    rw [List.map_singleton, List.mem_singleton] at hb
    rintro rfl
    exact h3 (hb ▸ ha)
end

/-! _law_classes -/
def R_law_classes (K : PySem.W.Frag) : List Dt → Rg → Rg → Dt → Prop := fun ds r r2 d => ∃ p : Addr, ∃ n : Nat, ∃ z : Int, ∃ u : Int, (1 ≤ z ∧ z ≤ 5) ∧ (1 ≤ u ∧ u ≤ 4) ∧ (n < 80000) ∧ ds = [dV (.ref p), dI z, dI u] ∧ r = potR p n ∧ r2 = potR p (n + 200) ∧ d = dClasses K z
abbrev N_law_classes : List Str := ["_law_pot_here", "_law_zooms", "_law_most", "_law_found", "_law_names", "_law_turn", "_law_first", "_law_many", "_law_least"]
theorem sc_law_classes : FnScope N_law_classes ["_law_pot_here", "_law_zooms", "_law_most"] (defScope s_law_classes) := ⟨rfl, rfl, rfl, by decide +kernel, rfl, by decide +kernel, by decide +kernel⟩
theorem fn_law_classes (T : Tx w K mg) : Fn0 P w K mg base 4 "_law_classes" ["_law_pot_here", "_law_zooms", "_law_most"] (spM (R_law_classes K)) := by
  obtain ⟨fd, F⟩ := T.f_law_classes
  have nd := sc_law_classes.nd
  refine mk_fn T.g_law_classes F.kp (fn_M F sc_law_classes (by rintro _ _ _ _ ⟨p, n, z, u, c0, c1, c2, rfl, rfl, rfl, rfl⟩; rfl) (fun cdv A outer s H E hr => ?_)) (F.bindsN fun _ _ _ _ _ _ us hl => match us, hl with | [_, _, _], _ => rfl)
  have hu := hu_of hr
  have hu65 := hu65 hr
  refine ⟨_, (pss_cons (ps_par (i := 3) (j := 4) (by rfl) nd rfl rfl (by decide) rfl rfl (pa_cons (pe_lst pa_nil) (pa_cons (pe_lst pa_nil) pa_nil)) (by rfl)) (pss_cons (ps_for PassesOwn.never rfl (pi_r1 T.b_range (pa_cons (pe_op op_add pe_int (pe_callF (fn_law_take T) (hr.mono (by decide)) (pa_cons (pv 0) (pa_cons (pv 2) pa_nil)))) pa_nil)) (pg_name (i := 5) nd rfl (Or.inl rfl)) (pss_cons (ps_expr (pe_bm PySem.F.plainAttrs_list PySem.F.slot_list_append PySem.F.type_list_append mt_append (pv 4) (pa_cons (pe_callF (fn_law_name T) hr (pa_cons (pv 0) (pa_cons (pv 4) pa_nil))) pa_nil))) (pss_cons (ps_set (i := 6) nd rfl (Or.inl rfl) (pe_callF (fn_law_of T) (hr.mono (by decide)) (pa_cons (pv 0) (pa_cons (pe_lst (pa_cons pe_int (pa_cons pe_int (pa_cons (pe_callF (fn_law_take T) (hr.mono (by decide)) (pa_cons (pv 0) (pa_cons (pv 1) pa_nil))) pa_nil)))) pa_nil)))) (pss_cons (ps_set (i := 7) nd rfl (Or.inl rfl) (pe_callF (fn_law_of T) (hr.mono (by decide)) (pa_cons (pv 0) (pa_cons (pe_lst (pa_cons (pe_op op_sub (pv 1) (pv 6)) (pa_cons (pe_op op_sub (pv 1) (pv 6)) (pa_cons (pe_op op_add pe_int (pe_callF (fn_law_take T) (hr.mono (by decide)) (pa_cons (pv 0) (pa_cons (pe_op op_sub (pv 1) (pv 6)) pa_nil)))) pa_nil)))) pa_nil)))) (pss_cons (ps_set (i := 8) nd rfl (Or.inl rfl) (pe_callF (fn_law_of T) (hr.mono (by decide)) (pa_cons (pv 0) (pa_cons (pe_lst (pa_cons pe_int (pa_cons pe_int (pa_cons pe_int (pa_cons (pe_op op_add pe_int (pe_callF (fn_law_take T) (hr.mono (by decide)) (pa_cons (pv 0) (pa_cons pe_int pa_nil)))) pa_nil))))) pa_nil)))) (pss_one (ps_expr (pe_bm PySem.F.plainAttrs_list PySem.F.slot_list_append PySem.F.type_list_append mt_append (pv 3) (pa_cons (pe_tup (pa_cons (pe_ix (ixK_list K) (pv 4) (pe_un un_neg pe_int) (fun _ _ => rfl)) (pa_cons (pv 6) (pa_cons (pv 8) (pa_cons (pe_op op_add (pv 8) (pe_callF (fn_law_take T) (hr.mono (by decide)) (pa_cons (pv 0) (pa_cons pe_int pa_nil)))) (pa_cons (pe_callF (fn_law_sizes T) hr (pa_cons (pv 0) (pa_cons (pv 7) pa_nil))) pa_nil)))))) pa_nil))))))))) (pss_one (ps_ret (pv 3))))), ?_⟩
  rintro _ _ _ _ ⟨p, n, z, u, c0, c1, c2, rfl, rfl, rfl, rfl⟩
  have htk := fun (q : Nat) (hq : q < 95000) (ρ : Rho) (h0 : ρ[0]? = some (some (dV (.ref p)))) (te : TE) (i : Int) (he : Ed te ρ (dI i)) (hi : 1 ≤ i ∧ i ≤ 100) => em_call (E := E0) (R := R_law_take K) (r := potR p q) (r1 := potR p q) (r' := potR p (q + 1)) (ρ := ρ) (d := dRng 0 (i - 1)) (tt := tCons (tVar 0) (tCons te tNil)) rfl (ema_cons rfl (em_var h0) (ema_cons rfl (em_e he hidr_V) ema_nil)) ⟨p, q, i, ⟨hi.1, by omega⟩, by omega, rfl, rfl, rfl, rfl⟩
  refine sm_own2 (r3 := potR p (n + 200)) (R2 := fun f g => clR K p n f g [] []) (R3 := fun f g => clF K p (n + 200) f g z) (ρ3 := fun f g => [some (dV (.ref p)), some (dI z), some (dI u), some (dV (.ref f)), some (dV (.ref g)), none, none, none, none]) (fun _ _ => rfl) (fun _ _ => rfl) (by decide) (fun f g H j hf hg hgf j2 => ?_) (fun f g hf hg hgf => ?_) (fun _ _ => rfl) (fun f g H hf hJ => ?_)
  · exact ⟨j2, ⟨[], by rw [upd_ne (Ne.symm hgf)]; exact upd_same, True.intro⟩, upd_same, by simpa [potR] using hf, by simpa [potR] using hg, hgf⟩
  · refine sm_forX (lo := 1 + 0) (hi := 1 + (u - 1)) (rr := clR K p (n + 1) f g [] []) (fun i => clX K p (n + 1 + 40 * i) f g z i) (fun _ => [some (dV (.ref p)), some (dI z), some (dI u), some (dV (.ref f)), some (dV (.ref g)), none, none, none, none]) rfl (fun _ => rfl) (cl_fr (ns := []) rfl (em_addR (htk n (by omega) _ rfl _ u (ed_var (i := 2)) ⟨c1.1, by omega⟩)) hidL_rng) (by omega) (fun H j => ⟨[], ⟨by simp, by simp⟩, rfl, j⟩) (fun m H h1 h2 ⟨rows, a, b, c⟩ => ⟨m, by omega, by omega, rows, a, b, cl_le (by omega) c⟩) (fun m H σ h1 h2 e => e) (fun i hi => ⟨_, gdm_name, ?_⟩)
    refine sm_pre (rs := fun rows => clR K p (n + 1 + 40 * i) f g rows (rows.map Row.name)) (fun _ => rfl) fun H ⟨rows, ok, hl, hj⟩ => ⟨rows, hj, ?_⟩
    refine sm_seq (r1 := clN K p (n + 1 + 40 * i + 20) f g rows) rfl (sm_appV (l := g) (i := 4) (d := dName (rows.map Row.name)) (r1 := clR K p (n + 1 + 40 * i + 20) f g rows (rows.map Row.name)) rfl (fun H j => ⟨_, j.2.2.1⟩) (cl_fr rfl (em_call (E := E0) (R := R_law_name K) (r1 := potR p (n + 1 + 40 * i)) rfl (ema_cons rfl em_var (ema_cons rfl (em_var (i := 4)) ema_nil)) ⟨p, _, rows.map Row.name, by simp; omega, by omega, rfl, rfl, rfl, rfl⟩) (fun _ _ _ _ h => h)) rfl (by simp [clR]) (fun H j => ⟨_, j.2.2.1, by simp; omega, fun v ⟨s, hv, hs, hn⟩ => by
      subst hv
      exact ⟨s, hs, hn, cl_addN j⟩⟩)) ?_
    refine sm_pre (rs := fun s => clR K p (n + 1 + 40 * i + 20) f g rows (rows.map Row.name ++ [s])) (fun _ => rfl) fun H ⟨s, hs, hn, hj⟩ => ⟨s, hj, ?_⟩
    refine sm_seq (r1 := clR K p (n + 1 + 40 * i + 20 + 1 + 1) f g rows (rows.map Row.name ++ [s])) rfl (sm_set (r' := clR K p (n + 1 + 40 * i + 20 + 1 + 1) f g rows (rows.map Row.name ++ [s])) (d := dRng (0) (z - 1)) rfl (cl_fr rfl (em_wk (d := dOne [dI 0, dI 0, dRng 0 (z - 1)]) (em_call (E := E0) (R := R_law_of K) (r := potR p (n + 1 + 40 * i + 20)) (r1 := potR p (n + 1 + 40 * i + 20 + 1)) (r' := potR p (n + 1 + 40 * i + 20 + 1 + 1)) rfl (ema_cons rfl em_var (ema_cons (r1 := potR p (n + 1 + 40 * i + 20 + 1)) rfl (em_lst (K := K) (r' := potR p (n + 1 + 40 * i + 20 + 1)) rfl (ema_cons rfl (em_e ed_c hidr_V) (ema_cons rfl (em_e ed_c hidr_V) (ema_cons (r1 := potR p (n + 1 + 40 * i + 20 + 1)) rfl (htk (n + 1 + 40 * i + 20) (by omega) _ rfl _ z (ed_var (i := 1)) ⟨c0.1, by omega⟩) ema_nil))) (by simp)) ema_nil)) ⟨p, n + 1 + 40 * i + 20 + 1, _, by simp, by omega, rfl, rfl, rfl, rfl⟩) (fun H v ⟨d, hd, pd⟩ => by
      simp only [List.mem_cons, List.not_mem_nil, or_false] at hd
      rcases hd with rfl | rfl | rfl
      · exact ⟨0, pd, by omega, by omega⟩
      · exact ⟨0, pd, by omega, by omega⟩
      · exact pd)) hidL_rng)) ?_
    refine sm_env (k := 6) (d := dRng (0) (z - 1)) (f := fun x : Int => dI x) (fun x => 0 ≤ x ∧ x ≤ z - 1) rfl (fun H v ⟨x, h1, h2, h3⟩ => ⟨x, ⟨h2, h3⟩, h1⟩) fun a ha => ?_
    refine sm_seq (r1 := clR K p (n + 1 + 40 * i + 22 + 1 + 1) f g rows (rows.map Row.name ++ [s])) rfl (sm_set (r' := clR K p (n + 1 + 40 * i + 22 + 1 + 1) f g rows (rows.map Row.name ++ [s])) (d := dRng (1) (z - a)) rfl (cl_fr rfl (em_wk (d := dOne [dI (z - a), dI (z - a), dRng (1 + 0) (1 + (z - a - 1))]) (em_call (E := E0) (R := R_law_of K) (r := potR p (n + 1 + 40 * i + 22)) (r1 := potR p (n + 1 + 40 * i + 22 + 1)) (r' := potR p (n + 1 + 40 * i + 22 + 1 + 1)) rfl (ema_cons rfl em_var (ema_cons (r1 := potR p (n + 1 + 40 * i + 22 + 1)) rfl (em_lst (K := K) (r' := potR p (n + 1 + 40 * i + 22 + 1)) rfl (ema_cons rfl (em_e (ed_sub (ed_var (i := 1)) (ed_var (i := 6))) hidr_V) (ema_cons rfl (em_e (ed_sub (ed_var (i := 1)) (ed_var (i := 6))) hidr_V) (ema_cons (r1 := potR p (n + 1 + 40 * i + 22 + 1)) rfl (em_addR (htk (n + 1 + 40 * i + 22) (by omega) _ rfl _ (z - a) (ed_sub (ed_var (i := 1)) (ed_var (i := 6))) ⟨by omega, by omega⟩)) ema_nil))) (by simp)) ema_nil)) ⟨p, n + 1 + 40 * i + 22 + 1, _, by simp, by omega, rfl, rfl, rfl, rfl⟩) (fun H v ⟨d, hd, pd⟩ => by
      simp only [List.mem_cons, List.not_mem_nil, or_false] at hd
      rcases hd with rfl | rfl | rfl
      · exact ⟨z - a, pd, by omega, by omega⟩
      · exact ⟨z - a, pd, by omega, by omega⟩
      · obtain ⟨x, h1, h2, h3⟩ := pd
        exact ⟨x, h1, by omega, by omega⟩)) hidL_rng)) ?_
    refine sm_env (k := 7) (d := dRng (1) (z - a)) (f := fun x : Nat => dI (x : Int)) (fun x => 1 ≤ (x : Int) ∧ (x : Int) ≤ z - a) rfl (fun H v ⟨x, h1, h2, h3⟩ => ⟨x.toNat, ⟨by omega, by omega⟩, by rw [Int.toNat_of_nonneg (by omega)]; exact h1⟩) fun b hb => ?_
    refine sm_seq (r1 := clR K p (n + 1 + 40 * i + 24 + 1 + 1) f g rows (rows.map Row.name ++ [s])) rfl (sm_set (r' := clR K p (n + 1 + 40 * i + 24 + 1 + 1) f g rows (rows.map Row.name ++ [s])) (d := dRng (1) (9)) rfl (cl_fr rfl (em_wk (d := dOne [dI 1, dI 2, dI 3, dRng (1 + 0) (1 + (9 - 1))]) (em_call (E := E0) (R := R_law_of K) (r := potR p (n + 1 + 40 * i + 24)) (r1 := potR p (n + 1 + 40 * i + 24 + 1)) (r' := potR p (n + 1 + 40 * i + 24 + 1 + 1)) rfl (ema_cons rfl em_var (ema_cons (r1 := potR p (n + 1 + 40 * i + 24 + 1)) rfl (em_lst (K := K) (r' := potR p (n + 1 + 40 * i + 24 + 1)) rfl (ema_cons rfl (em_e ed_c hidr_V) (ema_cons rfl (em_e ed_c hidr_V) (ema_cons rfl (em_e ed_c hidr_V) (ema_cons (r1 := potR p (n + 1 + 40 * i + 24 + 1)) rfl (em_addR (htk (n + 1 + 40 * i + 24) (by omega) _ rfl _ 9 ed_c ⟨by omega, by omega⟩)) ema_nil)))) (by simp)) ema_nil)) ⟨p, n + 1 + 40 * i + 24 + 1, _, by simp, by omega, rfl, rfl, rfl, rfl⟩) (fun H v ⟨d, hd, pd⟩ => by
      simp only [List.mem_cons, List.not_mem_nil, or_false] at hd
      rcases hd with rfl | rfl | rfl | rfl
      · exact ⟨1, pd, by omega, by omega⟩
      · exact ⟨2, pd, by omega, by omega⟩
      · exact ⟨3, pd, by omega, by omega⟩
      · obtain ⟨x, h1, h2, h3⟩ := pd
        exact ⟨x, h1, by omega, by omega⟩)) hidL_rng)) ?_
    refine sm_env (k := 8) (d := dRng (1) (9)) (f := fun x : Int => dI x) (fun x => 1 ≤ x ∧ x ≤ 9) rfl (fun H v ⟨x, h1, h2, h3⟩ => ⟨x, ⟨h2, h3⟩, h1⟩) fun c hc => ?_
    refine sm_wk rfl (sm_appV (r' := clX K p (n + 1 + 40 * (i + 1)) f g z (i + 1)) (l := f) (i := 3) (d := dNew K s z) (r1 := clR K p (n + 1 + 40 * i + 26 + 1 + 2 * b) f g rows (rows.map Row.name ++ [s])) rfl (fun H j => by
      obtain ⟨vs, j2, j3⟩ := j.2.1
      exact ⟨vs, j2⟩) (cl_fr rfl (em_wk (d := dTup K [dS s, dI a, dI c, dRng (c + 0) (c + (4 - 1)), dSizes K b]) (em_tup rfl (ema_cons rfl (em_e (ed_ixL (K := K) (ed_var (i := 4)) (ed_neg ed_c) at_lastS) hidr_V) (ema_cons rfl (em_var (i := 6)) (ema_cons rfl (em_var (i := 8)) (ema_cons (r1 := potR p (n + 1 + 40 * i + 26 + 1)) rfl (em_addV (ed_var (i := 8)) rfl (htk (n + 1 + 40 * i + 26) (by omega) _ rfl _ 4 ed_c ⟨by omega, by omega⟩)) (ema_cons (r1 := potR p (n + 1 + 40 * i + 26 + 1 + 2 * b)) rfl (em_call (E := E0) (R := R_law_sizes K) (r1 := potR p (n + 1 + 40 * i + 26 + 1)) rfl (ema_cons rfl em_var (ema_cons rfl (em_var (i := 7)) ema_nil)) ⟨p, _, b, by omega, by omega, rfl, rfl, rfl, rfl⟩) ema_nil))))) (by simp)) (fun H v h => new_of (b := (b : Int)) hs ha hb hc h)) hidL_new) rfl (by simp [clR]) (fun H j => by
      obtain ⟨vs, j2, j3⟩ := j.2.1
      refine ⟨vs, j2, by have := j3.len; simp at this; omega, fun v ⟨r, r1, r2, r3, r4⟩ => ⟨rows ++ [r], rows_snoc ok r2 r3 (by rw [r1]; exact hn), by simp [hl], ?_⟩⟩
      have q := cl_le (q' := n + 1 + 40 * (i + 1)) (by omega) (cl_addR j j2 r4)
      rw [List.map_append, List.map_singleton, r1]
      exact q)) (wk_c (wk_c (wk_c (wk_c (wk_c (wk_n (wk_n (wk_n (wk_n wk_0)))))))))
  · obtain ⟨i, i1, i4, rows, h1, h2, h3⟩ := hJ
    obtain ⟨g1, ⟨vs, g2, g3⟩, g4⟩ := h3
    exact ⟨g1, rows, h1, by omega, by omega, f, vs, rfl, by rw [hideL_at hf]; exact g2, g3.mono (hideL_sub fun a ha => by rw [List.mem_singleton.mp ha]; simp)⟩

end
end Sl
namespace Sl
open PySem PySem.Spec PyProof.Rows L2 StX RZ
open Evl (Ex ex_l ex_t ex_rd sq_of st_of sz_of sz_lt fresh_back)
local macro_rules | `(tactic| walk_at "sd") => `(tactic| first | assumption | omega | decide | (constructor <;> assumption) | (constructor <;> omega))
section
variable {P : Program} {w : World} {K : PySem.W.Frag} {mg : Str → Option Value} {base : Heap}

/-- a test whose answer is not known before -/
def TmU (r r' : Rg) (t : TT) (ρ : Rho) (Pb : Bool → Prop) : Prop := ∀ H σ, r.Ok H ρ σ → ∀ Q : Bool → Hp → Prop, (∀ b H', Pb b → r'.J H' → Ex (hideL r.as H) (hideL r.as H') → Q b H') → t σ H Q
section
variable {r r' r1 : Rg} {ρ : Rho} {t : TT} {s1 s2 : TS} {d : Dt} {Pb : Bool → Prop}
theorem sm_ifRU (as : r1.as = r.as) (h : TmU r r1 t ρ Pb) (h1 : Pb true → Sm r1 s1 ρ (.ret r' d)) (h2 : Pb false → Sm r1 s2 ρ (.ret r' d)) : Sm r (tSeq (tIfS t s1 tNext) s2) ρ (.ret r' d) := fun H σ D e k => h H σ e _ fun b H1 pb j1 e1 => by
  have k1 : (OutM.ret r' d).ok r1.as H1 D := by rw [as]; exact k.mono e1
  cases b with
  | true => exact h1 pb H1 σ { D with nx := s2 D } (e.next as j1 e1) k1
  | false => exact h2 pb H1 σ D (e.next as j1 e1) k1
theorem em_takeR {p : Addr} {q q' : Nat} {te : TE} {hi : Int} (h0 : ρ[0]? = some (some (dV (.ref p)))) (hq : q' < 100000) (hh : hi ≤ 1000000) (h : Em (potR p q) (potR p q') te ρ (dRng 1 hi)) : Em (potR p q) (potR p (q' + 1)) (tCall (spM (R_law_take K)) [] E0 (tCons (tVar 0) (tCons te tNil))) ρ (dRng 0 (hi - 1)) := fun H σ e Q k =>
  ema_cons (r1 := potR p q) rfl (em_var h0) (ema_cons (r1 := potR p q') rfl h ema_nil) H σ e _ fun vs H1 j1 e1 p1 => by
    obtain ⟨v, w, rfl, hv, u, hw, u1, u2⟩ := all2_2 p1
    have ha : All2 (hideL (potR p q').as H1) [dV (.ref p), dI u] [v, w] := ⟨hv, hw, True.intro⟩
    exact ⟨[dV (.ref p), dI u], potR p q', potR p (q' + 1), dRng 0 (u - 1), ⟨p, q', u, ⟨u1, by omega⟩, hq, rfl, rfl, rfl, rfl⟩, j1, ha, fun x H2 j2 e2 ⟨i, i1, i2, i3⟩ => k x H2 j2 (e1.trans e2) ⟨i, i1, i2, by omega⟩⟩
theorem tmu_or {u : TT} {a : Bool} (h1 : Td t ρ a) (h : ∀ H, r.J H → r'.J H) (hp : a = true → Pb true) (h2 : a = false → TmU r r' u ρ Pb) : TmU r r' (tOr t u) ρ Pb := fun H σ e Q q => h1 H σ (rg_same H σ e) _ fun H1 e1 => by
  cases a with
  | true => exact q true H1 (hp rfl) (h _ (r.mono e1 e.1)) (hideL_mono e1)
  | false => exact h2 rfl H1 σ (e.next rfl (r.mono e1 e.1) (hideL_mono e1)) _ fun b H2 pb j2 e2 => q b H2 pb j2 ((hideL_mono e1).trans e2)
theorem tmu_eqR {te : TE} {lo hi j : Int} (hp : ∀ b, Pb b) (h : Em r r' te ρ (dRng lo hi)) : TmU r r' (tTest (tOp rEq te (tC (.int j)))) ρ Pb := fun H σ e Q q => h H σ e _ fun v H1 j1 e1 ⟨i, hv, _, _⟩ => by
  subst hv
  exact ed_eqI (ta := tC (.int i)) (tb := tC (.int j)) (ρ := ρ) ed_c ed_c H1 σ ((e.2.mono e1).mono hideL_ex) (fun x H' => ∃ k, x = V.bl k ∧ Q k H') fun w H2 e2 p => ⟨_, p, q _ H2 (hp _) (r'.mono e2 j1) (e1.trans (hideL_mono e2))⟩
theorem sm_asg {g : TG} {te : TE} {ρ1 : Rho} (as : r'.as = r.as) (h : Em r r' te ρ d) (hg : GdM g d ρ ρ1) : Sm r (tAsg te g) ρ (.nx r' ρ1) := fun H σ D e k => h H σ e _ fun v H1 j1 e1 p => hg r.as v H1 σ p (e.2.mono e1) _ fun σ' en => k σ' H1 j1 e1 en
theorem pot_hid {p : Addr} {n : Nat} (h : HidL d) : HidR (potR p n) d := fun H v j pv => h H _ v (rng_soft j) pv
end
/-- a reading that gives a fresh object -/
def EdF (te : TE) (ρ : Rho) (d : Dt) : Prop := ∀ H σ, EnvOk H ρ σ → ∀ Q : VK, (∀ v H', Ex H H' → d.P H' v → (∃ a, v = .ref a ∧ H a = none) → Q v H') → te σ H Q
theorem ef_lc {ρ : Rho} {te : TE} {α : Type} {wi : TI} {g : TG} {tt : TT} {vs js : List Nat} (xs : List α) (φ : α → Dt) (p : α → Bool) (ψ : α → Dt) (hw : Wd wi ρ (xs.map φ)) (hz : xs.length ≤ 40000) (hj : ∀ j ∈ js, j ∈ vs) (hi : ∀ a ∈ xs, p a = true → Imm (ψ a))
    (ht : ∀ a ∈ xs, ∃ ρ1, Gd g (φ a) js (wpR ρ vs) ρ1 ∧ Td tt ρ1 (p a) ∧ (p a = true → Ed te ρ1 (ψ a))) : EdF (tLc wi g tt te vs) ρ (dLst K ((xs.filter p).map ψ)) := fun H σ e Q q => hw H σ e _ fun J H1 e1 ok D hD => by
  have eD : ∀ {H2 : Hp} {acc : List V}, Ex H1 H2 → Ex H1 (upd H2 D (.lst acc)) := fun e2 => Ex.mut e2 hD
  refine ⟨fun i m H2 => m = xs.length - i ∧ i ≤ xs.length ∧ Ex H1 H2 ∧ ∃ acc, H2 D = some (.lst acc) ∧ All2 H2 (((xs.take i).filter p).map ψ) acc, ⟨_, rfl, Nat.zero_le _, Ex.new hD, [], upd_same, True.intro⟩, ?_⟩
  rintro i m H2 ⟨rfl, hi2, e2, acc, hacc, hall⟩
  by_cases hlt : i < xs.length
  · right
    have hx : xs[i]? = some xs[i] := List.getElem?_eq_getElem hlt
    have hφ : (xs.map φ)[i]? = some (φ xs[i]) := by rw [List.getElem?_map, hx]; rfl
    have hm : xs[i] ∈ xs := List.getElem_mem hlt
    obtain ⟨go, yl⟩ := (ok i H2 e2).1 _ hφ
    refine ⟨go, fun H' => i + 1 ≤ xs.length ∧ Ex H1 H' ∧ ∃ acc, H' D = some (.lst acc) ∧ All2 H' (((xs.take (i + 1)).filter p).map ψ) acc, fun H' ⟨h1, h2, h3⟩ => ⟨xs.length - (i + 1), by omega, rfl, h1, h2, h3⟩, fun x H3 y => ?_⟩
    obtain ⟨e3, px⟩ := yl x H3 y
    obtain ⟨ρ1, hg, htt, hte⟩ := ht _ hm
    have etake : xs.take (i + 1) = xs.take i ++ [xs[i]] := by rw [List.take_add_one, hx]; rfl
    refine hg x H3 (L2.wipe σ vs) px (((e.mono e1).mono (e2.trans e3)).wipe vs) _ fun σ2 en w2 => ⟨?_, ?_⟩
    · have := w2 vs hj
      rw [this]
      exact ed_lc.wipe_wipe xs
    · refine htt H3 σ2 en _ fun H4 e4 => ?_
      have e34 := e3.trans e4
      cases hp : p xs[i] with
      | true =>
        rw [if_pos rfl]
        refine hte hp H4 σ2 (en.mono e4) _ fun v H5 e5 pv => ?_
        have e25 := e34.trans e5
        have h5 := e25 D _ hacc
        refine ⟨acc, h5, sz_lt ?_, hlt, eD (e2.trans e25), acc ++ [v], upd_same, ?_⟩
        · have := hall.len
          rw [List.length_map] at this
          have := List.length_filter_le p (xs.take i)
          rw [List.length_take] at this
          omega
        · have kx : Kx H5 (upd H5 D (.lst (acc ++ [v]))) := Kx.set h5
          rw [etake, List.filter_append, List.map_append]
          have ef : (List.filter p [xs[i]]).map ψ = [ψ xs[i]] := by rw [List.filter_cons, if_pos hp]; rfl
          rw [ef]
          refine All2.imm kx (fun d hd => ?_) ((hall.mono e25).app ⟨pv, True.intro⟩)
          rcases List.mem_append.mp hd with hd | hd
          · obtain ⟨a, ha, rfl⟩ := List.mem_map.mp hd
            obtain ⟨ha1, ha2⟩ := List.mem_filter.mp ha
            exact hi a (List.mem_of_mem_take ha1) ha2
          · rw [List.mem_singleton.mp hd]
            exact hi _ hm hp
      | false =>
        rw [if_neg (by decide)]
        refine ⟨hlt, e2.trans e34, acc, e34 D _ hacc, ?_⟩
        rw [etake, List.filter_append, List.map_append]
        have ef : (List.filter p [xs[i]]).map ψ = [] := by rw [List.filter_cons, if_neg (by rw [hp]; decide)]; rfl
        rw [ef, List.append_nil]
        exact hall.mono e34
  · left
    have ei : i = xs.length := by omega
    subst ei
    refine ⟨(ok xs.length H2 e2).2 (by rw [List.length_map]), q _ H2 (e1.trans e2) ⟨D, acc, rfl, hacc, ?_⟩ ⟨D, rfl, ?_⟩⟩
    · rw [List.take_length] at hall
      exact hall
    · cases hh : H D with
      | none => rfl
      | some o => rw [e1 _ _ hh] at hD; cases hD
/-- a fresh list of numbers beside the region -/
theorem em_fresh {r : Rg} {ρ : Rho} {te : TE} {ns : List Int} (h : EdF te ρ (dLst K (ns.map fun n => dI n))) : Em r r te ρ (dLst K (ns.map fun n => dI n)) := fun H σ e Q q => h H σ (rg_same H σ e) _ fun v H1 e1 ⟨p, vs, a, b, c⟩ ⟨D, hD, hn⟩ => by
  subst a
  cases hD
  have hna : p ∉ r.as := fun hm => r.live e.1 p hm hn
  have hv : vs = ns.map V.int := All2.vals V.int c
  subst hv
  exact q _ H1 (r.mono e1 e.1) (hideL_mono e1) ⟨p, _, rfl, by rw [hideL_at hna]; exact b, All2.of_vals V.int ns⟩
def zsI (S : Sty) (i j : Int) : List Int := ((List.range (S.last.toNat + 1)).filter fun z : Nat => thereB (S.row i) (z : Int) && thereB (S.row j) (z : Int)).map fun z : Nat => (z : Int)
theorem zsI_map (S : Sty) (i j : Int) : (zsI S i j).map (fun n => dI n) = ((List.range (S.last.toNat + 1)).filter fun z : Nat => thereB (S.row i) (z : Int) && thereB (S.row j) (z : Int)).map fun z : Nat => dI (z : Int) := by
  unfold zsI
  rw [List.map_map]
  rfl
theorem eqv_nil (ns : List Int) : PyData.eqv (.list (ns.map PyData.int)) (.list []) = decide (ns = []) := by
  cases ns <;> rfl
theorem shaped_intL (ns : List Int) : SeqAt.shaped (.list (ns.map PyData.int)) = true := by
  obtain ⟨h1, h2⟩ := ints_layI ns
  simp [SeqAt.shaped, PyData.canLay0, PyData.depth, h1, h2]
theorem ed_isNil {ρ : Rho} {ta : TE} {ns : List Int} (h : Ed ta ρ (dLst K (ns.map fun n => dI n))) : Ed (tOp (rEqD K) ta (tLst tNil)) ρ (dB (decide (ns = []))) := by
  rw [← eqv_nil]
  refine ed_eqD (K := K) h (ed_lst (K := K) eda_nil (by simp)) (pd_lst (es := ns.map PyData.int) (by simp) (fun i d e h1 h2 => ?_)) (pd_lst (ds := []) (es := []) rfl (fun i d e h => by simp at h)) (shaped_intL ns) (by decide)
  rw [List.getElem?_map] at h1 h2
  cases hn : ns[i]? with
  | none => rw [hn] at h1; cases h1
  | some n =>
    rw [hn] at h1 h2
    cases h1
    cases h2
    exact pd_I
theorem em_cb {r r' : Rg} {ρ : Rho} {R : List V → Hp → VK → Prop} {tt : TA} {ds : List Dt} {d : Dt} (as : r'.as = r.as) (h : EmA r r' tt ρ ds) (hr : CD R ds d) (hd : HidR r' d) : Em r r' (tCB R tt) ρ d := fun H σ e Q q => h H σ e _ fun vs H1 j1 e1 p1 => hr H1 vs (p1.mono hideL_ex) _ fun v H2 e2 p2 => q v H2 (r'.mono e2 j1) (e1.trans (hideL_mono e2)) (by
  have := hd H2 v (r'.mono e2 j1) p2
  rw [as] at this
  exact this)
theorem cd_intR {lo hi : Int} : CD rInt1 [dRng lo hi] (dRng lo hi) := fun H vs h' Q q => by
  obtain ⟨v, rfl, i, e, h1, h2⟩ := all2_1 h'
  subst e
  exact .inl ⟨i, rfl, q _ H (Ex.refl H) ⟨i, rfl, h1, h2⟩⟩
theorem cd_minR {a lo hi : Int} : CD rMin2 [dI a, dRng lo hi] (dRng (min a lo) a) := fun H vs h' Q q => by
  obtain ⟨v, w, rfl, e1, i, e2, h1, h2⟩ := all2_2 h'
  have e1' : v = .int a := e1
  subst e1' e2
  exact ⟨a, i, rfl, q _ H (Ex.refl H) ⟨_, rfl, by split <;> omega, by split <;> omega⟩⟩
theorem cd_maxR {a lo hi : Int} (ha : a ≤ hi) : CD rMax2 [dI a, dRng lo hi] (dRng a hi) := fun H vs h' Q q => by
  obtain ⟨v, w, rfl, e1, i, e2, h1, h2⟩ := all2_2 h'
  have e1' : v = .int a := e1
  subst e1' e2
  exact ⟨a, i, rfl, q _ H (Ex.refl H) ⟨_, rfl, by split <;> omega, by split <;> omega⟩⟩
theorem hidr_rng {r : Rg} {lo hi : Int} : HidR r (dRng lo hi) := fun _ _ _ h => h

/-! _law_distance -/
def R_law_distance (K : PySem.W.Frag) : List Dt → Rg → Rg → Dt → Prop := fun ds r r2 d => ∃ p : Addr, ∃ n : Nat, ∃ S : Sty, ∃ i : Int, ∃ j : Int, (S.Ok) ∧ (S.In i ∧ S.In j) ∧ (n < 90000) ∧ ds = [dV (.ref p), dLore K S, tupI K (pairI (i, j))] ∧ r = potR p n ∧ r2 = potR p (n + 10) ∧ d = dRng 1 9999
abbrev N_law_distance : List Str := ["_law_pot_here", "_law_lore_here", "_law_pair_here", "_law_one", "_law_other", "_law_zooms", "_law_zoom", "_law_found"]
theorem sc_law_distance : FnScope N_law_distance ["_law_pot_here", "_law_lore_here", "_law_pair_here"] (defScope s_law_distance) := ⟨rfl, rfl, rfl, by decide +kernel, rfl, by decide +kernel, by decide +kernel⟩
theorem fn_law_distance (T : Tx w K mg) : Fn0 P w K mg base 3 "_law_distance" ["_law_pot_here", "_law_lore_here", "_law_pair_here"] (spM (R_law_distance K)) := by
  obtain ⟨fd, F⟩ := T.f_law_distance
  have nd := sc_law_distance.nd
  refine mk_fn T.g_law_distance F.kp (fn_M F sc_law_distance (by rintro _ _ _ _ ⟨p, n, S, i, j, c0, c1, c2, rfl, rfl, rfl, rfl⟩; rfl) (fun cdv A outer s H E hr => ?_)) (F.bindsN fun _ _ _ _ _ _ us hl => match us, hl with | [_, _, _], _ => rfl)
  have hu := hu_of hr
  have hu65 := hu65 hr
  refine ⟨_, (pss_cons (ps_asg (pe_tup (pa_cons (pe_ix (ixK_list K) (pe_dgetF hu (pv 1) pe_str (fun _ _ => rfl)) (pe_ix (ixK_tup K) (pv 2) pe_int (fun _ _ => rfl)) (fun _ _ => rfl)) (pa_cons (pe_ix (ixK_list K) (pe_dgetF hu (pv 1) pe_str (fun _ _ => rfl)) (pe_ix (ixK_tup K) (pv 2) pe_int (fun _ _ => rfl)) (fun _ _ => rfl)) pa_nil))) (pg_tupK K (n := 2) (pgs_cons (pg_name (i := 3) nd rfl (Or.inr rfl)) (pgs_cons (pg_name (i := 4) nd rfl (Or.inr rfl)) pgs_nil)))) (pss_cons (ps_setLc (i := 5) (own := [("_law_zoom", 6)]) rfl nd rfl rfl (sw_true rfl rfl rfl (by decide +kernel)) (pi_r1 T.b_range (pa_cons (pe_dgetF hu (pv 1) pe_str (fun _ _ => rfl)) pa_nil)) (blkOk_by (N := N_law_distance) (sc := defScope s_law_distance) (by decide +kernel)) (fun _ _ _ _ _ => (pg_name (i := 6) nd rfl (Or.inl rfl))) (fun _ _ _ _ _ => pts_one (PW.pt (pw_and (pt_val (pe_callF (fn_law_is_there T) (hr.mono (by decide)) (pa_cons (pv 3) (pa_cons (pv 6) pa_nil)))) (pw_and1 (pt_val (pe_callF (fn_law_is_there T) (hr.mono (by decide)) (pa_cons (pv 4) (pa_cons (pv 6) pa_nil)))))))) (fun _ _ _ _ _ => (pv 6))) (pss_cons (ps_if (PW.pt (pw_or (pt_cmpR (opK_eqD K hu65) (pv 5) (pe_lst pa_nil) (nomark _)) (pw_or1 (pt_cmpR op_eq (pe_callF (fn_law_take T) (hr.mono (by decide)) (pa_cons (pv 0) (pa_cons pe_int pa_nil))) pe_int (nomark _))))) (pss_one (ps_ret (pe_op op_add pe_int (pe_callF (fn_law_take T) (hr.mono (by decide)) (pa_cons (pv 0) (pa_cons (pe_callF (fn_law_of T) hr (pa_cons (pv 0) (pa_cons (pe_lst (pa_cons pe_int (pa_cons pe_int (pa_cons pe_int pa_nil)))) pa_nil))) pa_nil)))))) pss_nil) (pss_cons (ps_set (i := 6) nd rfl (Or.inl rfl) (pe_callF (fn_law_of T) hr (pa_cons (pv 0) (pa_cons (pv 5) pa_nil)))) (pss_cons (ps_set (i := 7) nd rfl (Or.inl rfl) (pe_op op_add (pe_callF (fn_law_half T) hr (pa_cons (pv 1) (pa_cons (pe_ix (ixK_tup K) (pv 2) pe_int (fun _ _ => rfl)) (pa_cons (pe_ix (ixK_tup K) (pv 3) pe_int (fun _ _ => rfl)) (pa_cons (pv 6) pa_nil))))) (pe_callF (fn_law_half T) hr (pa_cons (pv 1) (pa_cons (pe_ix (ixK_tup K) (pv 2) pe_int (fun _ _ => rfl)) (pa_cons (pe_ix (ixK_tup K) (pv 4) pe_int (fun _ _ => rfl)) (pa_cons (pv 6) pa_nil))))))) (pss_one (ps_ret (pe_bi (call_max2 (by rfl)) T.b_max (by decide +kernel) (pa_cons pe_int (pa_cons (pe_bi (call_min2 (by rfl)) T.b_min (by decide +kernel) (pa_cons pe_int (pa_cons (pe_bt call_int1 T.b_int (by decide +kernel) (pa_cons (pe_op op_add (pv 7) (pe_callF (fn_law_of T) hr (pa_cons (pv 0) (pa_cons (pe_lst (pa_cons pe_int (pa_cons (pe_un un_neg pe_int) (pa_cons pe_int (pa_cons pe_int (pa_cons (pe_callF (fn_law_take T) (hr.mono (by decide)) (pa_cons (pv 0) (pa_cons pe_int pa_nil))) pa_nil)))))) pa_nil)))) pa_nil)) pa_nil))) pa_nil)))))))))), ?_⟩
  rintro _ _ _ _ ⟨p, n, S, i, j, c0, c1, c2, rfl, rfl, rfl, rfl⟩
  refine sm_seq rfl (sm_asg (d := dTup K [clsD K (S.row i), clsD K (S.row j)]) rfl (em_tup rfl (ema_cons rfl (em_e (ed_ixL (K := K) (ed_lc_ (ed_var (i := 1))) (ed_ixT (ed_var (i := 2)) ed_c rfl) (at_cls c1.1)) (pot_hid hidL_cls)) (ema_cons rfl (em_e (ed_ixL (K := K) (ed_lc_ (ed_var (i := 1))) (ed_ixT (ed_var (i := 2)) ed_c rfl) (at_cls c1.2)) (pot_hid hidL_cls)) ema_nil)) (by simp)) (gdm_tup (gdms_cons gdm_name (gdms_cons gdm_name gdms_nil)))) ?_
  refine sm_seq rfl (sm_set (d := dLst K ((zsI S i j).map fun n => dI n)) rfl (em_fresh ?_)) ?_
  · rw [zsI_map]
    exact ef_lc (K := K) (List.range (S.last.toNat + 1)) (fun z : Nat => dI (z : Int)) (fun z : Nat => thereB (S.row i) (z : Int) && thereB (S.row j) (z : Int)) (fun z : Nat => dI (z : Int)) (wd_r1 (eda_cons (ed_lz (ed_var (i := 1))) eda_nil) (by have := c0.z0; omega) (by have := c0.z4; omega)) (by rw [List.length_range]; have := c0.z4; omega) (by decide) (fun _ _ _ => imm_V _) fun z _ => ⟨_, gd_name, td_and (td_B (ed_call (eda_cons (ed_var (i := 3)) (eda_cons (ed_var (i := 6)) eda_nil)) ⟨_, _, rfl, rfl⟩)) (fun _ => td_B (ed_call (eda_cons (ed_var (i := 4)) (eda_cons (ed_var (i := 6)) eda_nil)) ⟨_, _, rfl, rfl⟩)), fun _ => ed_var (i := 6)⟩
  have htk := fun (q : Nat) (hq : q < 95000) (ρ : Rho) (h0 : ρ[0]? = some (some (dV (.ref p)))) (te : TE) (i : Int) (he : Ed te ρ (dI i)) (hi : 1 ≤ i ∧ i ≤ 100) => em_call (E := E0) (R := R_law_take K) (r := potR p q) (r1 := potR p q) (r' := potR p (q + 1)) (ρ := ρ) (d := dRng 0 (i - 1)) (tt := tCons (tVar 0) (tCons te tNil)) rfl (ema_cons rfl (em_var h0) (ema_cons rfl (em_e he hidr_V) ema_nil)) ⟨p, q, i, ⟨hi.1, by omega⟩, by omega, rfl, rfl, rfl, rfl⟩
  refine sm_ifRU (r1 := potR p (n + 1)) (Pb := fun b => b = false → zsI S i j ≠ []) rfl (tmu_or (a := decide (zsI S i j = [])) (td_test ?_) (fun H j => potR_le (by omega) j) (fun _ h => nomatch h) (fun hz => tmu_eqR (fun _ _ => of_decide_eq_false hz) (htk n (by omega) _ rfl _ 4 ed_c ⟨by omega, by omega⟩))) (fun _ => ?_) (fun hz => ?_)
  · exact ed_isNil (ed_var (i := 5))
  · refine sm_post (r1 := potR p (n + 3)) (d := dRng (1 + 0) (1 + (9999 - 1))) (fun H j => potR_le (by omega) j) (fun H v ⟨x, h1, h2, h3⟩ => ⟨x, h1, by omega, by omega⟩) (sm_ret (em_addR (em_takeR (q' := n + 2) rfl (by omega) (by decide) (em_wk (d := dOne [dI 20, dI 400, dI 9999]) (em_call (E := E0) (R := R_law_of K) (r := potR p (n + 1)) (r1 := potR p (n + 1)) (r' := potR p (n + 2)) rfl (ema_cons rfl em_var (ema_cons rfl (em_lst (K := K) rfl (ema_cons rfl (em_e ed_c hidr_V) (ema_cons rfl (em_e ed_c hidr_V) (ema_cons rfl (em_e ed_c hidr_V) ema_nil))) (by simp)) ema_nil)) ⟨p, n + 1, _, by simp, by omega, rfl, rfl, rfl, rfl⟩) (fun H v ⟨d, hd, pd⟩ => by
      simp only [List.mem_cons, List.not_mem_nil, or_false] at hd
      rcases hd with rfl | rfl | rfl
      · exact ⟨20, pd, by decide, by decide⟩
      · exact ⟨400, pd, by decide, by decide⟩
      · exact ⟨9999, pd, by decide, by decide⟩))))) 
  · have hzl : 1 ≤ (zsI S i j).length := by
      cases hh : zsI S i j with
      | nil => exact absurd hh (hz rfl)
      | cons a l => simp
    have hzu : (zsI S i j).length ≤ 5 := by
      unfold zsI
      rw [List.length_map]
      have := List.length_filter_le (fun z : Nat => thereB (S.row i) (z : Int) && thereB (S.row j) (z : Int)) (List.range (S.last.toNat + 1))
      rw [List.length_range] at this
      have := c0.z4
      omega
    refine sm_seq (r1 := potR p (n + 2)) rfl (sm_set (r' := potR p (n + 2)) (d := dOne ((zsI S i j).map fun n => dI n)) rfl (em_call (E := E0) (R := R_law_of K) (r := potR p (n + 1)) (r1 := potR p (n + 1)) (r' := potR p (n + 2)) rfl (ema_cons rfl em_var (ema_cons rfl (em_var (i := 5)) ema_nil)) ⟨p, n + 1, _, by simp; omega, by omega, rfl, rfl, rfl, rfl⟩)) ?_
    refine sm_env (k := 6) (d := dOne ((zsI S i j).map fun n => dI n)) (f := fun z : Int => dI z) (fun z => z ∈ zsI S i j) rfl (fun H v ⟨d, hd, pd⟩ => by
      obtain ⟨z, hz, rfl⟩ := List.mem_map.mp hd
      exact ⟨z, hz, pd⟩) fun z hzm => ?_
    have hzf : (0 ≤ z ∧ z ≤ S.last) ∧ thereB (S.row i) z = true ∧ thereB (S.row j) z = true := by
      unfold zsI at hzm
      obtain ⟨m, hm, rfl⟩ := List.mem_map.mp hzm
      obtain ⟨h1, h2⟩ := List.mem_filter.mp hm
      have h1' := List.mem_range.mp h1
      have := c0.z0
      exact ⟨⟨by omega, by omega⟩, by simpa using h2⟩
    have hm1 := c1.1.ok c0
    have hm2 := c1.2.ok c0
    have := hm1.l9
    have := hm2.l9
    have := hm1.l0
    have := hm2.l0
    have := hm1.m0
    have := hm2.m0
    have := hm1.m3
    have := hm2.m3
    refine sm_seq rfl (sm_set (d := dI (hw S z i (S.row i).most + hw S z j (S.row j).most)) rfl (em_e (ed_add (ed_call (eda_cons (ed_var (i := 1)) (eda_cons (ed_ixT (ed_var (i := 2)) ed_c rfl) (eda_cons (ed_ixT (ed_var (i := 3)) ed_c rfl) (eda_cons (ed_var (i := 6)) eda_nil)))) ⟨S, z, i, (S.row i).most, c0, hzf.1, c1.1, hzf.2.1, ⟨by omega, by omega⟩, rfl, rfl⟩) (ed_call (eda_cons (ed_var (i := 1)) (eda_cons (ed_ixT (ed_var (i := 2)) ed_c rfl) (eda_cons (ed_ixT (ed_var (i := 4)) ed_c rfl) (eda_cons (ed_var (i := 6)) eda_nil)))) ⟨S, z, j, (S.row j).most, c0, hzf.1, c1.2, hzf.2.2, ⟨by omega, by omega⟩, rfl, rfl⟩)) hidr_V)) ?_
    generalize hw S z i (S.row i).most + hw S z j (S.row j).most = w
    refine sm_post (r1 := potR p (n + 4)) (d := dRng 1 9999) (fun H j => potR_le (by omega) j) (fun H v h => h) (sm_ret (em_cb (ds := [dI 1, dRng (min 9999 (w + -1)) 9999]) rfl (ema_cons rfl (em_e ed_c hidr_V) (ema_cons (r1 := potR p (n + 4)) rfl (em_cb (ds := [dI 9999, dRng (w + -1) (w + 29)]) rfl (ema_cons rfl (em_e ed_c hidr_V) (ema_cons (r1 := potR p (n + 4)) rfl (em_cb (ds := [dRng (w + -1) (w + 29)]) rfl (ema_cons (r1 := potR p (n + 4)) rfl (em_addV (ed_var (i := 7)) rfl (em_wk (d := dOne [dI 0, dI (-1), dI 1, dI 0, dRng 0 (30 - 1)]) (em_call (E := E0) (R := R_law_of K) (r := potR p (n + 2)) (r1 := potR p (n + 3)) (r' := potR p (n + 4)) rfl (ema_cons rfl em_var (ema_cons (r1 := potR p (n + 3)) rfl (em_lst (K := K) (r' := potR p (n + 3)) rfl (ema_cons rfl (em_e ed_c hidr_V) (ema_cons rfl (em_e (ed_neg ed_c) hidr_V) (ema_cons rfl (em_e ed_c hidr_V) (ema_cons rfl (em_e ed_c hidr_V) (ema_cons (r1 := potR p (n + 3)) rfl (htk (n + 2) (by omega) _ rfl _ 30 ed_c ⟨by omega, by omega⟩) ema_nil))))) (by simp)) ema_nil)) ⟨p, n + 3, _, by simp, by omega, rfl, rfl, rfl, rfl⟩) (fun H v ⟨d, hd, pd⟩ => by
      simp only [List.mem_cons, List.not_mem_nil, or_false] at hd
      rcases hd with rfl | rfl | rfl | rfl | rfl
      · exact ⟨0, pd, by decide, by decide⟩
      · exact ⟨-1, pd, by decide, by decide⟩
      · exact ⟨1, pd, by decide, by decide⟩
      · exact ⟨0, pd, by decide, by decide⟩
      · obtain ⟨x, h1, h2, h3⟩ := pd
        exact ⟨x, h1, by omega, by omega⟩))) ema_nil) cd_intR hidr_rng) ema_nil)) cd_minR hidr_rng) ema_nil)) (cd_maxR (by decide)) hidr_rng))

end
end Sl
namespace Sl
open PySem PySem.Spec PyProof.Rows L2 StX RZ
open Evl (Ex ex_l ex_t ex_rd sq_of st_of sz_of sz_lt fresh_back)
local macro_rules | `(tactic| walk_at "sd") => `(tactic| first | assumption | omega | decide | (constructor <;> assumption) | (constructor <;> omega))
section
variable {P : Program} {w : World} {K : PySem.W.Frag} {mg : Str → Option Value} {base : Heap}

/-! ### the lore being made -/
def lore0 (z : Int) (lb lf : Addr) : List (Key × V) := [(Sum.inr "zooms", V.int z), (Sum.inr "beside", V.ref lb), (Sum.inr "far", V.ref lf)]
structure LrA where
  D : Addr
  lb : Addr
  lf : Addr
  p : Addr
  n1 : D ≠ lb
  n2 : D ≠ lf
  n3 : D ≠ p
  n4 : lb ≠ lf
  n5 : lb ≠ p
  n6 : lf ≠ p
def LrA.as (a : LrA) : List Addr := [a.D, a.lb, a.lf, a.p]
theorem soft_l {xs : List V} : SoftO (.lst xs) := ⟨(fun _ e => nomatch e), (fun _ _ e => nomatch e), (fun _ _ _ e => nomatch e)⟩
theorem soft_d {kvs : List (Key × V)} : SoftO (.dK kvs) := ⟨(fun _ e => nomatch e), (fun _ _ e => nomatch e), (fun _ _ _ e => nomatch e)⟩
theorem lr_soft {a : LrA} {n : Nat} {H : Hp} {kvs : List (Key × V)} {vb vf : List V} (h1 : (potR a.p n).J H) (h2 : H a.D = some (.dK kvs)) (h3 : H a.lb = some (.lst vb)) (h4 : H a.lf = some (.lst vf)) : ∀ b ∈ a.as, ∃ o, H b = some o ∧ SoftO o := fun b hb => by
  simp only [LrA.as, List.mem_cons, List.not_mem_nil, or_false] at hb
  rcases hb with rfl | rfl | rfl | rfl
  · exact ⟨_, h2, soft_d⟩
  · exact ⟨_, h3, soft_l⟩
  · exact ⟨_, h4, soft_l⟩
  · exact rng_soft h1 _ (by simp [potR])
theorem lr_live {a : LrA} {H : Hp} (h : ∀ b ∈ a.as, ∃ o, H b = some o ∧ SoftO o) : ∀ b ∈ a.as, H b ≠ none := fun b hb e => by
  obtain ⟨o, h1, _⟩ := h b hb
  rw [e] at h1
  cases h1
def l0R (a : LrA) (n : Nat) (z : Int) : Rg where
  as := a.as
  J := fun H => (potR a.p n).J H ∧ H a.D = some (.dK (lore0 z a.lb a.lf)) ∧ H a.lb = some (.lst []) ∧ H a.lf = some (.lst [])
  mono := fun e ⟨h1, h2, h3, h4⟩ => ⟨(potR a.p n).mono e h1, e _ _ h2, e _ _ h3, e _ _ h4⟩
  live := fun ⟨h1, h2, h3, h4⟩ => lr_live (lr_soft h1 h2 h3 h4)
def l1R (K : PySem.W.Frag) (a : LrA) (n : Nat) (S : Sty) : Rg where
  as := a.as
  J := fun H => (potR a.p n).J H ∧ ∃ lc vb vf, H a.D = some (.dK (loreK S a.lb a.lf lc)) ∧ H a.lb = some (.lst vb) ∧ H a.lf = some (.lst vf) ∧ All2 (hideL a.as H) (S.beside.map (bpD K)) vb ∧ All2 (hideL a.as H) (S.far.map (farD K)) vf ∧ (dLst K (S.rows.map (clsD K))).P (hideL a.as H) (.ref lc)
  mono := fun e ⟨h1, lc, vb, vf, h2, h3, h4, h5, h6, h7⟩ => ⟨(potR a.p n).mono e h1, lc, vb, vf, e _ _ h2, e _ _ h3, e _ _ h4, h5.mono (hideL_mono e), h6.mono (hideL_mono e), Dt.mono _ (hideL_mono e) h7⟩
  live := fun ⟨h1, lc, vb, vf, h2, h3, h4, _⟩ => lr_live (lr_soft h1 h2 h3 h4)
structure GoodS (S : Sty) : Prop where
  ok : S.Ok
  gs : ∀ r ∈ S.rows, GoodSizes r.sizes
  bs : S.beside.Sublist (pairsN S.rows.length)
  fs : (S.far.map (·.1)).Sublist (pairsN S.rows.length)
def dLoreX (K : PySem.W.Frag) : Dt := ⟨fun H v => ∃ S, GoodS S ∧ (dLore K S).P H v, fun e ⟨S, h1, h2⟩ => ⟨S, h1, Dt.mono _ e h2⟩⟩
theorem pairsN_nd {m : Nat} (h : m ≤ 4) : (pairsN m).Nodup := by
  rcases m with _ | _ | _ | _ | _ | m
  · decide +kernel
  · decide +kernel
  · decide +kernel
  · decide +kernel
  · decide +kernel
  · omega
def LO (m i j : Nat) (bes : List (Int × Int)) (far : List ((Int × Int) × Int)) : Prop := bes.Sublist ((pairsN m).take i) ∧ (far.map (·.1)).Sublist ((pairsN m).take j) ∧ ∀ p ∈ far, 1 ≤ p.2 ∧ p.2 ≤ 9999
theorem lo_ok {z : Int} {rows : List Row} {m i j : Nat} {bes : List (Int × Int)} {far : List ((Int × Int) × Int)} (hz : 1 ≤ z ∧ z ≤ 5) (hr : RowsOk z rows) (h1 : 1 ≤ rows.length) (h4 : rows.length ≤ 4) (hm : rows.length = m) (h : LO m i j bes far) : GoodS ⟨"", z - 1, rows, bes, far⟩ := by
  subst hm
  have hl := pairsTo_len h4 (i := rows.length) (Nat.le_refl _)
  have b1 := h.1.trans (List.take_sublist _ _)
  have b2 := h.2.1.trans (List.take_sublist _ _)
  have l1 : bes.length ≤ (pairsTo rows.length rows.length).length := b1.length_le
  have l2 : (far.map (·.1)).length ≤ (pairsTo rows.length rows.length).length := b2.length_le
  rw [List.length_map] at l2
  exact ⟨⟨by show 0 ≤ z - 1; omega, by show z - 1 ≤ 4; omega, h1, h4, fun r hx => (hr.1 r hx).1, hr.2, (pairsN_nd h4).sublist b2, h.2.2, by show bes.length ≤ 100; omega, by show far.length ≤ 100; omega⟩, fun r hx => (hr.1 r hx).2, b1, b2⟩
def lX (K : PySem.W.Frag) (a : LrA) (n : Nat) (z : Int) (rows : List Row) (i j : Nat) : Rg where
  as := a.as
  J := fun H => ∃ bes far, LO rows.length i j bes far ∧ (l1R K a n ⟨"", z - 1, rows, bes, far⟩).J H
  mono := fun e ⟨b, f, h1, h2⟩ => ⟨b, f, h1, (l1R K a n _).mono e h2⟩
  live := fun ⟨b, f, h1, h2⟩ => (l1R K a n _).live h2
def lF (K : PySem.W.Frag) (n : Nat) (a : LrA) : Rg where
  as := a.as
  J := fun H => ∃ S, GoodS S ∧ (l1R K a n S).J H
  mono := fun e ⟨S, h1, h2⟩ => ⟨S, h1, (l1R K a n S).mono e h2⟩
  live := fun ⟨S, h1, h2⟩ => (l1R K a n S).live h2
def l0C (K : PySem.W.Frag) (a : LrA) (n : Nat) (z : Int) : Rg where
  as := a.as
  J := fun H => ∃ rows, (RowsOk z rows ∧ 1 ≤ rows.length ∧ rows.length ≤ 4) ∧ (l1R K a n ⟨"", z - 1, rows, [], []⟩).J H
  mono := fun e ⟨r, h1, h2⟩ => ⟨r, h1, (l1R K a n _).mono e h2⟩
  live := fun ⟨r, h1, h2⟩ => (l1R K a n _).live h2
section
variable {a : LrA} {q q' n : Nat} {S : Sty} {z : Int} {ρ : Rho} {te : TE} {d : Dt} {r r' r1 : Rg} {t u : TT} {s1 s2 : TS} {o : OutM} {Pb : Bool → Prop}
theorem p_sub : ∀ b ∈ (potR a.p q).as, b ∈ a.as := fun b hb => by
  rw [List.mem_singleton.mp hb]
  simp [LrA.as]
theorem p_sub1 : ∀ b ∈ [a.p], b ∈ a.as := fun b hb => by
  rw [List.mem_singleton.mp hb]
  simp [LrA.as]
theorem l1_lore {H : Hp} (j : (l1R K a q S).J H) : (dLore K S).P (hideL [a.p] H) (.ref a.D) := by
  obtain ⟨h1, lc, vb, vf, h2, h3, h4, h5, h6, h7⟩ := j
  have e := hideL_sub (H := H) (p_sub1 (a := a))
  exact ⟨a.D, a.lb, a.lf, lc, rfl, by rw [hideL_at (by simpa using a.n3)]; exact h2, ⟨a.lb, vb, rfl, by rw [hideL_at (by simpa using a.n5)]; exact h3, h5.mono e⟩, ⟨a.lf, vf, rfl, by rw [hideL_at (by simpa using a.n6)]; exact h4, h6.mono e⟩, Dt.mono _ e h7⟩
theorem l1_le (h : q ≤ q') {H : Hp} (j : (l1R K a q S).J H) : (l1R K a q' S).J H := ⟨potR_le h j.1, j.2⟩
theorem lp_keep {H H' : Hp} (e : Ex (hideL (potR a.p q).as H) (hideL (potR a.p q).as H')) {b : Addr} (hb : b ≠ a.p) {o : HO} (h : H b = some o) : H' b = some o := by
  have hn : b ∉ (potR a.p q).as := by simpa [potR] using hb
  have := e b o (by rw [hideL_at hn]; exact h)
  rw [hideL_at hn] at this
  exact this
theorem lr_fr (hD : ρ[4]? = some (some (dV (.ref a.D)))) (h : Em (potR a.p q) (potR a.p q') te (ρ.set 4 (some (dLore K S))) d) (hd : HidL d) : Em (l1R K a q S) (l1R K a q' S) te ρ d :=
  em_frame h p_sub (fun H σ ⟨j, e⟩ => ⟨j.1, by
    obtain ⟨v, h1, h2⟩ := e.get hD
    have h2' : v = .ref a.D := h2
    subst h2'
    exact envok_ext h1 (l1_lore j) (e.mono (hideL_sub p_sub))⟩)
    (fun H H' ⟨h1, lc, vb, vf, h2, h3, h4, h5, h6, h7⟩ j' e => by
      have e2 := hideL_exS (p_sub (a := a)) e
      exact ⟨j', lc, vb, vf, lp_keep e a.n3 h2, lp_keep e a.n5 h3, lp_keep e a.n6 h4, h5.mono e2, h6.mono e2, Dt.mono _ e2 h7⟩)
    fun H v ⟨h1, lc, vb, vf, h2, h3, h4, _⟩ pv => hd H _ v (lr_soft h1 h2 h3 h4) (d.mono hideL_ex pv)
/-- the classes beside two empty lists -/
theorem l0_cls {H : Hp} {v : V} (j : (l0R a q z).J H) (h : (dClasses K z).P (hideL (potR a.p q).as H) v) : (dClasses K z).P (hideL a.as H) v := by
  obtain ⟨rows, r1, r2, r3, c, vs, hv, hc, hall⟩ := h
  obtain ⟨h1, h2, h3, h4⟩ := j
  have hc' := hideL_ex _ _ hc
  have hlen := hall.len
  rw [List.length_map] at hlen
  have g1 : c ≠ a.D := fun e => by rw [e, h2] at hc'; cases hc'
  have g2 : c ≠ a.lb := fun e => by
    rw [e, h3] at hc'
    cases hc'
    have h0 : rows.length = 0 := hlen
    omega
  have g3 : c ≠ a.lf := fun e => by
    rw [e, h4] at hc'
    cases hc'
    have h0 : rows.length = 0 := hlen
    omega
  have g4 : c ≠ a.p := fun e => by rw [e, hideL_in (by simp [potR])] at hc; cases hc
  exact ⟨rows, r1, r2, r3, c, vs, hv, by rw [hideL_at (by simp [LrA.as, g1, g2, g3, g4])]; exact hc', (hall.mono hideL_ex).hidL (lr_soft h1 h2 h3 h4) fun d hd => by
    obtain ⟨r, _, rfl⟩ := List.mem_map.mp hd
    exact hidL_cls⟩
theorem l0_fr (hD : ρ[4]? = some (some (dV (.ref a.D)))) (h : Em (potR a.p q) (potR a.p q') te (ρ.set 4 (some (dDK (lore0 z a.lb a.lf)))) (dClasses K z)) : Em (l0R a q z) (l0R a q' z) te ρ (dClasses K z) :=
  em_frame h p_sub (fun H σ ⟨j, e⟩ => ⟨j.1, by
    obtain ⟨v, h1, h2⟩ := e.get hD
    have h2' : v = .ref a.D := h2
    subst h2'
    exact envok_ext h1 ⟨a.D, rfl, by rw [hideL_at (by simpa [potR] using a.n3)]; exact j.2.1⟩ (e.mono (hideL_sub p_sub))⟩)
    (fun H H' ⟨h1, h2, h3, h4⟩ j' e => ⟨j', lp_keep e a.n3 h2, lp_keep e a.n5 h3, lp_keep e a.n6 h4⟩) fun H v j h => l0_cls j h
/-- lore["classes"] = .. -/
theorem sm_setD (hD : ρ[4]? = some (some (dV (.ref a.D)))) (h : Em (l0R a q z) (l0R a q' z) te ρ (dClasses K z)) : Sm (l0R a q z) (tAsg te (gSub (tVar 4) (tC (.str "classes")) rSetD)) ρ (.nx (l0C K a q' z) ρ) := fun H σ D e k => h H σ e _ fun v H1 ⟨j1, j2, j3, j4⟩ e1 ⟨rows, r1, r2, r3, c, vs, hv, hc, hall⟩ => by
  obtain ⟨v0, h1, h2⟩ := e.2.get hD
  have h2' : v0 = .ref a.D := h2
  subst h2' hv
  refine ⟨_, h1, a.D, _, rfl, DPut.k (k := Sum.inr "classes") j2 (sz_lt (by show 3 < 100000; decide)), ?_⟩
  have hk : putK (lore0 z a.lb a.lf) (Sum.inr "classes") (V.ref c) = ([(Sum.inr "zooms", V.int z), (Sum.inr "beside", V.ref a.lb), (Sum.inr "far", V.ref a.lf), (Sum.inr "classes", V.ref c)] : List (Key × V)) := by kernel_rfl
  rw [hk]
  have hh : ∀ o, hideL a.as (upd H1 a.D o) = hideL a.as H1 := fun o => hideL_upd (by simp [LrA.as])
  refine k σ _ ⟨rows, ⟨r1, r2, r3⟩, ?_, c, [], [], ?_, ?_, ?_, True.intro, True.intro, c, vs, rfl, by rw [hh]; exact hc, by rw [hh]; exact hall⟩ (by show Ex (hideL a.as H) (hideL a.as _); rw [hh]; exact e1) (by show EnvOk (hideL a.as _) ρ σ; rw [hh]; exact e.2.mono e1)
  · obtain ⟨x, y, w, k1, k2⟩ := j1
    exact ⟨x, y, w, by rw [upd_ne (Ne.symm a.n3)]; exact k1, k2⟩
  · rw [upd_same]
    show some (HO.dK _) = some (HO.dK [(Sum.inr "zooms", V.int (z - 1 + 1)), _, _, _])
    rw [Int.sub_add_cancel]
  · rw [upd_ne (Ne.symm a.n1)]
    exact j3
  · rw [upd_ne (Ne.symm a.n2)]
    exact j4
/-- {"zooms": .., "beside": [], "far": []}; the rest; the lore is handed back -/
theorem sm_disp {p : Addr} {m N : Nat} {tz : TE} {lF' : LrA → Rg} (hz : Em (potR p n) (potR p m) tz ρ (dRng 1 z)) (as3 : ∀ a, (lF' a).as = a.as)
    (hs : ∀ (a : LrA) z0, a.p = p → 1 ≤ z0 ∧ z0 ≤ z → Sm (l0R a m z0) s2 (ρ.set 4 (some (dV (.ref a.D)))) (.ret (lF' a) (dV (.ref a.D))))
    (h3 : ∀ (a : LrA) H, a.p = p → (lF' a).J H → (potR p N).J H ∧ d.P (hideL [p] H) (.ref a.D)) :
    Sm (potR p n) (tSeq (tAsg (tDisp [(tC (.str "zooms"), tz), (tC (.str "beside"), tLst tNil), (tC (.str "far"), tLst tNil)]) (gName 4)) s2) ρ (.ret (potR p N) d) := fun H σ Dn e qq pd hpd => by
  have x0 : Ex H (upd H pd (.dK [])) := Ex.new hpd
  refine hz _ σ ⟨(potR p n).mono x0 e.1, e.2.mono (hideL_mono x0)⟩ _ fun v H1 j1 e1 ⟨z0, hv, hz0⟩ => ?_
  subst hv
  refine ⟨by show 0 ≤ _; omega, fun lb hlb => ⟨by show 0 ≤ _; omega, fun lf hlf => ?_⟩⟩
  have hpp : pd ≠ p := fun hm => (potR p n).live e.1 p (by simp [potR]) (hm ▸ hpd)
  have np : pd ∉ (potR p n).as := by simpa [potR] using hpp
  have hp1 : H1 pd = some (.dK []) := by
    have := e1 pd (.dK []) (by rw [hideL_at np]; exact upd_same)
    rw [hideL_at np] at this
    exact this
  have hlbp : lb ≠ p := fun hm => (potR p m).live j1 p (by simp [potR]) (hm ▸ hlb)
  have hlbd : pd ≠ lb := fun hm => by rw [← hm, hp1] at hlb; cases hlb
  have hlfb : lb ≠ lf := fun hm => by rw [← hm, upd_same] at hlf; cases hlf
  have hlf1 : H1 lf = none := by rw [upd_ne (Ne.symm hlfb)] at hlf; exact hlf
  have hlfp : lf ≠ p := fun hm => (potR p m).live j1 p (by simp [potR]) (hm ▸ hlf1)
  have hlfd : pd ≠ lf := fun hm => by rw [← hm, hp1] at hlf1; cases hlf1
  refine ⟨by rw [upd_ne hlfd, upd_ne hlbd]; exact hp1, [(Sum.inr "zooms", V.int z0), (Sum.inr "beside", V.ref lb), (Sum.inr "far", V.ref lf)], rfl, by show 3 ≤ 15; decide, ?_⟩
  have hmk : mergeK [] [((Sum.inr "zooms" : Key), V.int z0), (Sum.inr "beside", V.ref lb), (Sum.inr "far", V.ref lf)] = lore0 z0 lb lf := by kernel_rfl
  rw [hmk]
  let a : LrA := ⟨pd, lb, lf, p, hlbd, hlfd, hpp, hlfb, hlbp, hlfp⟩
  generalize hH4 : upd (upd (upd H1 lb (.lst [])) lf (.lst [])) pd (.dK (lore0 z0 lb lf)) = H4
  have g1 : H4 pd = some (.dK (lore0 z0 lb lf)) := by rw [← hH4, upd_same]
  have g2 : H4 lb = some (.lst []) := by rw [← hH4, upd_ne (Ne.symm hlbd), upd_ne hlfb, upd_same]
  have g3 : H4 lf = some (.lst []) := by rw [← hH4, upd_ne (Ne.symm hlfd), upd_same]
  have g4 : ∀ b, b ≠ pd → b ≠ lb → b ≠ lf → H4 b = H1 b := fun b x y w => by rw [← hH4, upd_ne x, upd_ne w, upd_ne y]
  have j4 : (l0R a m z0).J H4 := ⟨by
    obtain ⟨x, y, w, k1, k2⟩ := j1
    exact ⟨x, y, w, by rw [g4 p (Ne.symm hpp) (Ne.symm hlbp) (Ne.symm hlfp)]; exact k1, k2⟩, g1, g2, g3⟩
  have e4 : Ex (hideL [p] H) (hideL a.as H4) := fun b o hb => by
    have hbp : b ≠ p := fun z => by rw [z, hideL_in (by simp)] at hb; cases hb
    rw [hideL_at (by simpa using hbp)] at hb
    have hbd : b ≠ pd := fun z => by rw [z, hpd] at hb; cases hb
    have hb1 : H1 b = some o := by
      have nb : b ∉ (potR p n).as := by simpa [potR] using hbp
      have := e1 b o (by rw [hideL_at nb, upd_ne hbd]; exact hb)
      rw [hideL_at nb] at this
      exact this
    have hbl : b ≠ lb := fun z => by rw [z, hlb] at hb1; cases hb1
    have hbf : b ≠ lf := fun z => by rw [z, hlf1] at hb1; cases hb1
    rw [hideL_at (by simp [LrA.as, a, hbd, hbl, hbf, hbp]), g4 b hbd hbl hbf]
    exact hb1
  refine hs a z0 rfl hz0 H4 _ Dn ⟨j4, (e.2.mono e4).set rfl 4⟩ fun v H' j' e' p' => ?_
  have p2 : v = .ref a.D := p'
  subst p2
  obtain ⟨k1, k2⟩ := h3 a H' rfl j'
  exact qq _ H' k1 ((e4.trans e').trans (hideL_sub (p_sub (a := a) (q := n)))) k2
theorem sm_forL {g : TG} {es : List Dt} {rr : Rg} (r : Nat → Rg) (as : List Addr) (ha : ∀ i, (r i).as = as) (har : rr.as = as) (h : Em rr rr te ρ (dLst K es)) (h0 : ∀ H, rr.J H → (r 0).J H)
    (hs : ∀ (i : Nat) d, es[i]? = some d → ∃ ρ1, GdM g d ρ ρ1 ∧ Sm (r i) s1 ρ1 (.nx (r (i + 1)) ρ)) : Sm rr (tFor (iList K te) g s1) ρ (.nx (r es.length) ρ) := fun H σ D e k => h H σ e _ fun v H1 j1 e1 p1 => by
  obtain ⟨p, vs, rfl, hp, hall⟩ := p1
  have en := e.2
  rw [har] at en e1 hp hall
  have w := walk_list (K := K) (a := p) (xs := vs)
  have hlen := hall.len
  refine ⟨p, rfl, ⟨vs, sq_of (hideL_ex _ _ hp)⟩, fun i m σ2 H2 => m = es.length - i ∧ i ≤ es.length ∧ (r i).J H2 ∧ Ex (hideL as H1) (hideL as H2) ∧ EnvOk (hideL as H2) ρ σ2, ⟨_, rfl, Nat.zero_le _, h0 _ j1, Ex.refl _, en.mono e1⟩, ?_⟩
  rintro i m σ2 H2 ⟨rfl, hi, j2, e2, en2⟩
  have hG : SqL K H2 p vs := sq_of (hideL_ex _ _ (e2 _ _ hp))
  by_cases hlt : i < es.length
  · right
    have hd : es[i]? = some es[i] := List.getElem?_eq_getElem hlt
    refine ⟨w.goes i H2 (by omega) hG, fun σ' H' => (r (i + 1)).J H' ∧ Ex (hideL as H1) (hideL as H') ∧ EnvOk (hideL as H') ρ σ', fun σ' H' ⟨a, b, c⟩ => ⟨_, by omega, rfl, hlt, a, b, c⟩, fun x H3 y => ?_⟩
    obtain ⟨rfl, hx⟩ := w.yields i H2 x H3 (by omega) hG y
    obtain ⟨ρ1, hg, hb⟩ := hs i _ hd
    obtain ⟨u, hu, pu⟩ := (hall.mono e2).get hd
    rw [hx] at hu
    cases hu
    refine hg as _ _ σ2 pu en2 _ fun σ3 en3 => ?_
    refine hb _ σ3 _ ⟨j2, by rw [ha]; exact en3⟩ fun σ' H' j' e' en' => ?_
    rw [ha] at e' en'
    exact ⟨j', e2.trans e', en'⟩
  · left
    have ei : i = es.length := by omega
    subst ei
    exact ⟨by rw [hlen]; exact w.stops H2 hG, k σ2 H2 j2 (by rw [har]; exact e1.trans e2) (by rw [har]; exact en2)⟩
theorem sm_ifU (as : r1.as = r.as) (h : TmU r r1 t ρ Pb) (h1 : Pb true → Sm r1 s1 ρ o) (h2 : Pb false → Sm r1 s2 ρ o) : Sm r (tIfS t s1 s2) ρ o := fun H σ D e k => h H σ e _ fun b H1 pb j1 e1 => by
  have k1 : o.ok r1.as H1 D := by rw [as]; exact k.mono e1
  cases b with
  | true => exact h1 pb H1 σ D (e.next as j1 e1) k1
  | false => exact h2 pb H1 σ D (e.next as j1 e1) k1
theorem tmu_and {b : Bool} (h1 : Td t ρ b) (h : ∀ H, r.J H → r'.J H) (hp : b = false → Pb false) (h2 : b = true → TmU r r' u ρ Pb) : TmU r r' (tAnd t u) ρ Pb := fun H σ e Q q => h1 H σ (rg_same H σ e) _ fun H1 e1 => by
  cases b with
  | true => exact h2 rfl H1 σ (e.next rfl (r.mono e1 e.1) (hideL_mono e1)) _ fun b H2 pb j2 e2 => q b H2 pb j2 ((hideL_mono e1).trans e2)
  | false => exact q false H1 (hp rfl) (h _ (r.mono e1 e.1)) (hideL_mono e1)
/-- lore["x"].append(e) -/
theorem sm_appD {l : Addr} {s : Str} (hv : ρ[4]? = some (some (dV (.ref a.D)))) (hl0 : ∀ H, r.J H → ∃ kvs vs, H a.D = some (.dK kvs) ∧ valV kvs (Sum.inr s) = some (.ref l) ∧ H l = some (.lst vs)) (hte : Em r r1 te ρ d) (as : r1.as = r.as) (hm : l ∈ r.as)
    (hl : ∀ H, r1.J H → ∃ vs, H l = some (.lst vs) ∧ vs.length < 1000 ∧ ∀ v, d.P (hideL r.as H) v → r'.J (upd H l (.lst (vs ++ [v])))) : Sm r (tDrop (tBM K "list" rAppend (tDGet (tVar 4) (tC (.str s))) (tCons te tNil))) ρ (.nx r' ρ) := fun H σ D e k => by
  obtain ⟨v0, h1, h2⟩ := e.2.get hv
  have h2' : v0 = .ref a.D := h2
  subst h2'
  obtain ⟨kvs, vs0, g0, gv, g1⟩ := hl0 H e.1
  refine ⟨_, h1, a.D, .ref l, rfl, gv ▸ DGet.k (k := Sum.inr s) g0, .inl ⟨rfl, vs0, sq_of g1⟩, hte H σ e _ fun v H1 j1 e1 p1 => ?_⟩
  obtain ⟨vs, g1, g2, g3⟩ := hl H1 j1
  exact ⟨l, vs, v, rfl, rfl, g1, sz_lt (by omega), k σ _ (g3 v p1) (by rw [hideL_upd hm]; exact e1) (by rw [hideL_upd hm]; exact e.2.mono e1)⟩
theorem l1_addB {H : Hp} {p : Int × Int} {v : V} {vb : List V} {rows : List Row} {bes : List (Int × Int)} {far : List ((Int × Int) × Int)} (j : (l1R K a q ⟨"", z, rows, bes, far⟩).J H) (hb : H a.lb = some (.lst vb)) (pv : (bpD K p).P (hideL a.as H) v) : (l1R K a q ⟨"", z, rows, bes ++ [p], far⟩).J (upd H a.lb (.lst (vb ++ [v]))) := by
  obtain ⟨⟨x, y, w, k1, k2⟩, lc, vb', vf, h2, h3, h4, h5, h6, h7⟩ := j
  rw [hb] at h3
  cases h3
  have hh : ∀ o, hideL a.as (upd H a.lb o) = hideL a.as H := fun o => hideL_upd (by simp [LrA.as])
  exact ⟨⟨x, y, w, by rw [upd_ne (Ne.symm a.n5)]; exact k1, k2⟩, lc, _, vf, by rw [upd_ne a.n1]; exact h2, upd_same, by rw [upd_ne (Ne.symm a.n4)]; exact h4, by
    rw [hh, List.map_append]
    exact h5.app ⟨pv, True.intro⟩, by rw [hh]; exact h6, by rw [hh]; exact h7⟩
theorem l1_addF {H : Hp} {p : (Int × Int) × Int} {v : V} {vf : List V} {rows : List Row} {bes : List (Int × Int)} {far : List ((Int × Int) × Int)} (j : (l1R K a q ⟨"", z, rows, bes, far⟩).J H) (hb : H a.lf = some (.lst vf)) (pv : (farD K p).P (hideL a.as H) v) : (l1R K a q ⟨"", z, rows, bes, far ++ [p]⟩).J (upd H a.lf (.lst (vf ++ [v]))) := by
  obtain ⟨⟨x, y, w, k1, k2⟩, lc, vb, vf', h2, h3, h4, h5, h6, h7⟩ := j
  rw [hb] at h4
  cases h4
  have hh : ∀ o, hideL a.as (upd H a.lf o) = hideL a.as H := fun o => hideL_upd (by simp [LrA.as])
  exact ⟨⟨x, y, w, by rw [upd_ne (Ne.symm a.n6)]; exact k1, k2⟩, lc, vb, _, by rw [upd_ne a.n2]; exact h2, by rw [upd_ne a.n4]; exact h3, upd_same, by rw [hh]; exact h5, by
    rw [hh, List.map_append]
    exact h6.app ⟨pv, True.intro⟩, by rw [hh]; exact h7⟩
theorem hidL_bp {p : Int × Int} : HidL (bpD K p) := hidL_tupI
/-- the pairs, many, beside two empty lists -/
theorem l1_pairs {rows : List Row} {qs : List (Int × Int)} (hq : qs ≠ []) : HidR (l1R K a q ⟨"", z, rows, [], []⟩) (dLst K (qs.map fun p => nTupI (pairI p))) := fun H v ⟨h1, lc, vb, vf, h2, h3, h4, h5, h6, h7⟩ ⟨c, vs, hv, hc, hall⟩ => by
  have hlen := hall.len
  rw [List.length_map] at hlen
  have hp := List.length_pos_iff.mpr hq
  have e1 := h5.len
  have e2 := h6.len
  simp at e1 e2
  have g1 : c ≠ a.D := fun e => by rw [e, h2] at hc; cases hc
  have g2 : c ≠ a.lb := fun e => by
    rw [e, h3] at hc
    cases hc
    omega
  have g3 : c ≠ a.lf := fun e => by
    rw [e, h4] at hc
    cases hc
    omega
  have g4 : c ≠ a.p := fun e => by
    obtain ⟨x, y, w, k1, k2⟩ := h1
    rw [e, k1] at hc
    cases hc
    obtain ⟨qq, hqq⟩ := List.exists_mem_of_ne_nil _ hq
    obtain ⟨j, hj⟩ := List.getElem?_of_mem hqq
    have hd : (qs.map fun p => nTupI (pairI p))[j]? = some (nTupI (pairI qq)) := by rw [List.getElem?_map, hj]; rfl
    obtain ⟨u, hu, t, us, e5, _⟩ := hall.get hd
    subst e5
    have := List.mem_of_getElem? hu
    simp at this
  exact ⟨c, vs, hv, by show hideL a.as H c = _; rw [hideL_at (by simp [LrA.as, g1, g2, g3, g4])]; exact hc, hall.hidL (lr_soft h1 h2 h3 h4) fun d hd => by
    obtain ⟨r, _, rfl⟩ := List.mem_map.mp hd
    exact hidL_nTupI⟩
theorem pairsN_in {m : Nat} {p : Int × Int} (h : p ∈ pairsN m) : 0 ≤ p.1 ∧ p.1 ≤ p.2 ∧ p.2 < (m : Int) := by
  unfold pairsN pairsTo at h
  obtain ⟨i, hi, h2⟩ := List.mem_flatMap.mp h
  obtain ⟨d, hd, rfl⟩ := List.mem_map.mp h2
  have h1 := List.mem_range.mp hi
  have h3 := List.mem_range.mp hd
  show (0 : Int) ≤ (i : Int) ∧ (i : Int) ≤ (i : Int) + (d : Int) ∧ (i : Int) + (d : Int) < (m : Int)
  omega
theorem pairsN_ne {m : Nat} (h : 1 ≤ m) : pairsN m ≠ [] := fun e => by
  have : ((0 : Int), (0 : Int)) ∈ pairsN m := by
    unfold pairsN pairsTo
    refine List.mem_flatMap.mpr ⟨0, List.mem_range.mpr h, List.mem_map.mpr ⟨0, List.mem_range.mpr (by omega), rfl⟩⟩
  rw [e] at this
  cases this
theorem take_next {α : Type} {l : List α} {i : Nat} {x : α} (h : l[i]? = some x) : l.take (i + 1) = l.take i ++ [x] := by rw [List.take_add_one, h]; rfl
theorem lo_b {m i j : Nat} {bes : List (Int × Int)} {far : List ((Int × Int) × Int)} {x : Int × Int} (lo : LO m i j bes far) (h : (pairsN m)[i]? = some x) : LO m (i + 1) j (bes ++ [x]) far := ⟨by rw [take_next h]; exact lo.1.append (List.Sublist.refl _), lo.2⟩
theorem lo_b0 {m i j : Nat} {bes : List (Int × Int)} {far : List ((Int × Int) × Int)} {x : Int × Int} (lo : LO m i j bes far) (h : (pairsN m)[i]? = some x) : LO m (i + 1) j bes far := ⟨by rw [take_next h]; exact lo.1.trans (List.sublist_append_left _ _), lo.2⟩
theorem lo_f {m i j : Nat} {bes : List (Int × Int)} {far : List ((Int × Int) × Int)} {x : Int × Int} {k : Int} (lo : LO m i j bes far) (h : (pairsN m)[j]? = some x) (hk : 1 ≤ k ∧ k ≤ 9999) : LO m i (j + 1) bes (far ++ [(x, k)]) := ⟨lo.1, by rw [take_next h, List.map_append]; exact lo.2.1.append (List.Sublist.refl _), fun p hp => by
  rcases List.mem_append.mp hp with hp | hp
  · exact lo.2.2 p hp
  · rw [List.mem_singleton.mp hp]
    exact hk⟩
theorem lo_f0 {m i j : Nat} {bes : List (Int × Int)} {far : List ((Int × Int) × Int)} {x : Int × Int} (lo : LO m i j bes far) (h : (pairsN m)[j]? = some x) : LO m i (j + 1) bes far := ⟨lo.1, by rw [take_next h]; exact lo.2.1.trans (List.sublist_append_left _ _), lo.2.2⟩
theorem lo_len {m i j : Nat} {bes : List (Int × Int)} {far : List ((Int × Int) × Int)} (hm : m ≤ 4) (lo : LO m i j bes far) : bes.length ≤ 16 ∧ far.length ≤ 16 := by
  have hl := pairsTo_len hm (i := m) (Nat.le_refl _)
  have l1 : bes.length ≤ (pairsTo m m).length := (lo.1.trans (List.take_sublist _ _)).length_le
  have l2 : (far.map (·.1)).length ≤ (pairsTo m m).length := (lo.2.1.trans (List.take_sublist _ _)).length_le
  rw [List.length_map] at l2
  omega
theorem em_w {r r1 : Rg} {te : TE} {ρ : Rho} {ds : List Dt} (h : Em r r1 te ρ (nTup ds)) : Em r r1 te ρ (dTup K ds) := fun H σ e Q q => h H σ e Q fun v H1 j e1 p => q v H1 j e1 (nTup_w p)
theorem far_of {x : Int × Int} {H : Hp} {v : V} (h : (dTup K [nTupI (pairI x), dRng 1 9999]).P H v) : ∃ k : Int, (1 ≤ k ∧ k ≤ 9999) ∧ (farD K (x, k)).P H v := by
  obtain ⟨p, vs, e, q, hv⟩ := h
  obtain ⟨v1, v2, rfl, p1, k, hk, k1, k2⟩ := all2_2 hv
  exact ⟨k, ⟨k1, k2⟩, p, _, e, q, p1, hk, True.intro⟩
theorem hidL_far9 {x : Int × Int} : HidL (dTup K [nTupI (pairI x), dRng 1 9999]) := hidL_tup fun d hd => by
  simp only [List.mem_cons, List.not_mem_nil, or_false] at hd
  rcases hd with rfl | rfl
  · exact hidL_nTupI
  · exact hidL_rng
end

/-! _law_lore -/
def R_law_lore (K : PySem.W.Frag) : List Dt → Rg → Rg → Dt → Prop := fun ds r r2 d => ∃ p : Addr, ∃ n : Nat, ∃ z : Int, ∃ u : Int, ∃ h : Int, (1 ≤ z ∧ z ≤ 5) ∧ (1 ≤ u ∧ u ≤ 4) ∧ (0 ≤ h ∧ h ≤ 100) ∧ (n < 70000) ∧ ds = [dV (.ref p), dI z, dI u, dI h] ∧ r = potR p n ∧ r2 = potR p (n + 1000) ∧ d = dLoreX K
abbrev N_law_lore : List Str := ["_law_pot_here", "_law_zooms", "_law_most", "_law_share", "_law_lore_here", "_law_pair_here"]
theorem sc_law_lore : FnScope N_law_lore ["_law_pot_here", "_law_zooms", "_law_most", "_law_share"] (defScope s_law_lore) := ⟨rfl, rfl, rfl, by decide +kernel, rfl, by decide +kernel, by decide +kernel⟩
theorem fn_law_lore (T : Tx w K mg) : Fn0 P w K mg base 5 "_law_lore" ["_law_pot_here", "_law_zooms", "_law_most", "_law_share"] (spM (R_law_lore K)) := by
  obtain ⟨fd, F⟩ := T.f_law_lore
  have nd := sc_law_lore.nd
  refine mk_fn T.g_law_lore F.kp (fn_M F sc_law_lore (by rintro _ _ _ _ ⟨p, n, z, u, h, c0, c1, c2, c3, rfl, rfl, rfl, rfl⟩; rfl) (fun cdv A outer s H E hr => ?_)) (F.bindsN fun _ _ _ _ _ _ us hl => match us, hl with | [_, _, _, _], _ => rfl)
  have hu := hu_of hr
  have hu65 := hu65 hr
  refine ⟨_, (pss_cons (ps_set (i := 4) nd rfl (Or.inl rfl) (pe_disp (pps_cons pe_str (pe_op op_add pe_int (pe_callF (fn_law_take T) (hr.mono (by decide)) (pa_cons (pv 0) (pa_cons (pv 1) pa_nil)))) (pps_cons pe_str (pe_lst pa_nil) (pps_cons pe_str (pe_lst pa_nil) pps_nil))) rfl rfl (by simp) (by decide))) (pss_cons (ps_asg (pe_callF (fn_law_classes T) hr (pa_cons (pv 0) (pa_cons (pe_dgetF hu (pv 4) pe_str (fun _ _ => rfl)) (pa_cons (pv 2) pa_nil)))) (pg_sub (pv 4) pe_str (set_dict hu))) (pss_cons (ps_for PassesOwn.never rfl (pi_listK K (pe_callF (fn_law_pairs T) (hr.mono (by decide)) (pa_cons (pe_bi (crK_len K) T.b_len (by decide +kernel) (pa_cons (pe_dgetF hu (pv 4) pe_str (fun _ _ => rfl)) pa_nil)) pa_nil))) (pg_name (i := 5) nd rfl (Or.inl rfl)) (pss_cons (ps_if (PW.pt (pw_and (pt_cmpR op_gt (pv 3) pe_int (nomark _)) (pw_and1 (pt_cmpR op_eq (pe_callF (fn_law_take T) (hr.mono (by decide)) (pa_cons (pv 0) (pa_cons (pv 3) pa_nil))) pe_int (nomark _))))) (pss_one (ps_expr (pe_bm PySem.F.plainAttrs_list PySem.F.slot_list_append PySem.F.type_list_append mt_append (pe_dgetF hu (pv 4) pe_str (fun _ _ => rfl)) (pa_cons (pv 5) pa_nil)))) pss_nil) (pss_one (ps_if (PW.pt (pw_and (pt_cmpR op_gt (pv 3) pe_int (nomark _)) (pw_and1 (pt_cmpR op_eq (pe_callF (fn_law_take T) (hr.mono (by decide)) (pa_cons (pv 0) (pa_cons (pv 3) pa_nil))) pe_int (nomark _))))) (pss_one (ps_expr (pe_bm PySem.F.plainAttrs_list PySem.F.slot_list_append PySem.F.type_list_append mt_append (pe_dgetF hu (pv 4) pe_str (fun _ _ => rfl)) (pa_cons (pe_tup (pa_cons (pv 5) (pa_cons (pe_callF (fn_law_distance T) (hr.mono (by decide)) (pa_cons (pv 0) (pa_cons (pv 4) (pa_cons (pv 5) pa_nil)))) pa_nil))) pa_nil)))) pss_nil)))) (pss_one (ps_ret (pv 4)))))), ?_⟩
  rintro _ _ _ _ ⟨p, n, z, u, h, c0, c1, c2, c3, rfl, rfl, rfl, rfl⟩
  have htk := fun (p : Addr) (q : Nat) (hq : q < 95000) (ρ : Rho) (h0 : ρ[0]? = some (some (dV (.ref p)))) (te : TE) (i : Int) (he : Ed te ρ (dI i)) (hi : 1 ≤ i ∧ i ≤ 100) => em_call (E := E0) (R := R_law_take K) (r := potR p q) (r1 := potR p q) (r' := potR p (q + 1)) (ρ := ρ) (d := dRng 0 (i - 1)) (tt := tCons (tVar 0) (tCons te tNil)) rfl (ema_cons rfl (em_var h0) (ema_cons rfl (em_e he hidr_V) ema_nil)) ⟨p, q, i, ⟨hi.1, by omega⟩, by omega, rfl, rfl, rfl, rfl⟩
  refine sm_disp (m := n + 1) (N := n + 1000) (z := z) (lF' := lF K (n + 1000)) (em_wk (em_addR (htk p n (by omega) _ rfl _ z (ed_var (i := 1)) ⟨c0.1, by omega⟩)) (fun H v ⟨x, h1, h2, h3⟩ => ⟨x, h1, by omega, by omega⟩)) (fun _ => rfl) (fun a z0 hp hz0 => ?_) (fun a H hp ⟨S, gS, j⟩ => ⟨hp ▸ j.1, S, gS, hp ▸ l1_lore j⟩)
  subst hp
  refine sm_seq (r1 := l0C K a (n + 1 + 200) z0) rfl (sm_setD rfl (l0_fr rfl (em_call (E := E0) (R := R_law_classes K) (r := potR a.p (n + 1)) (r1 := potR a.p (n + 1)) (r' := potR a.p (n + 1 + 200)) rfl (ema_cons rfl em_var (ema_cons rfl (em_e (ed_dget (ed_var (i := 4)) ed_c (v := .int z0) (by kernel_rfl)) hidr_V) (ema_cons rfl (em_var (i := 2)) ema_nil))) ⟨a.p, n + 1, z0, u, ⟨by omega, by omega⟩, c1, by omega, rfl, rfl, rfl, rfl⟩))) ?_
  refine sm_pre (rs := fun rows => l1R K a (n + 201) ⟨"", z0 - 1, rows, [], []⟩) (fun _ => rfl) fun H ⟨rows, ⟨ok, l1, l4⟩, hj⟩ => ⟨rows, hj, ?_⟩
  have hM : (pairsN rows.length).length ≤ 16 := by
    have := pairsTo_len l4 (i := rows.length) (Nat.le_refl _)
    show (pairsTo rows.length rows.length).length ≤ 16
    omega
  have hM0 := pairsN_ne l1
  refine sm_seq (r1 := lX K a (n + 201 + 20 * ((pairsN rows.length).map fun p => nTupI (pairI p)).length) z0 rows ((pairsN rows.length).map fun p => nTupI (pairI p)).length ((pairsN rows.length).map fun p => nTupI (pairI p)).length) rfl (sm_forL (fun i => lX K a (n + 201 + 20 * i) z0 rows i i) a.as (fun _ => rfl) rfl (em_of (ρ' := [some (dV (.ref a.p)), some (dI z), some (dI u), some (dI h), some (dLore K ⟨"", z0 - 1, rows, [], []⟩), none]) (ed_call (eda_cons (ed_cb (eda_cons (ed_lc_ (ed_var (i := 4))) eda_nil) cd_lenL) eda_nil) ⟨rows.length, l4, by rw [List.length_map], rfl⟩) (fun H σ e => ?_) (l1_pairs hM0)) (fun H j => ⟨[], [], ⟨List.nil_sublist _, List.nil_sublist _, fun p hp => by cases hp⟩, j⟩) (fun i d hd => ?_)) ?_
  · obtain ⟨v, g1, g2⟩ := e.2.get (i := 4) (d := dV (.ref a.D)) rfl
    have g2' : v = .ref a.D := g2
    subst g2'
    exact envok_ext g1 (Dt.mono _ hideL_ex (l1_lore e.1)) (e.2.mono hideL_ex)
  · obtain ⟨x, hx, hm, rfl⟩ := forE hd
    have hi : i < (pairsN rows.length).length := (List.getElem?_eq_some_iff.mp hx).1
    have hin := pairsN_in hm
    refine ⟨_, gdm_name, ?_⟩
    refine sm_pre (rs := fun (bf : List (Int × Int) × List ((Int × Int) × Int)) => l1R K a (n + 201 + 20 * i) ⟨"", z0 - 1, rows, bf.1, bf.2⟩) (fun _ => rfl) fun H ⟨bes, far, lo, hj⟩ => ⟨(bes, far), hj, ?_⟩
    have lb1 := (lo_len l4 lo).1
    refine sm_wk (ρ1 := [some (dV (.ref a.p)), some (dI z), some (dI u), some (dI h), some (dV (.ref a.D)), some (nTupI (pairI x))]) rfl (sm_seq (ρ1 := [some (dV (.ref a.p)), some (dI z), some (dI u), some (dI h), some (dV (.ref a.D)), some (nTupI (pairI x))]) (r1 := lX K a (n + 201 + 20 * i + 1) z0 rows (i + 1) i) rfl (sm_ifU (r1 := l1R K a (n + 201 + 20 * i + 1) ⟨"", z0 - 1, rows, bes, far⟩) (Pb := fun _ => True) rfl (tmu_and (b := decide (0 < h)) (td_test (ed_gt (ed_var (i := 3)) ed_c)) (fun H j => l1_le (by omega) j) (fun _ => True.intro) (fun hb => tmu_eqR (fun _ => True.intro) (lr_fr rfl (htk a.p (n + 201 + 20 * i) (by omega) _ rfl _ h (ed_var (i := 3)) ⟨by have := of_decide_eq_true hb; omega, c2.2⟩) hidL_rng))) (fun _ => ?_) (fun _ => ?_)) ?_) (wk_c (wk_c (wk_c (wk_c (wk_c (wk_n wk_0))))))
    · refine sm_appD (l := a.lb) (s := "beside") (d := nTupI (pairI x)) (r1 := l1R K a (n + 201 + 20 * i + 1) ⟨"", z0 - 1, rows, bes, far⟩) rfl (fun H j => ?_) (em_var (i := 5)) rfl (by simp [l1R, LrA.as]) (fun H j => ?_)
      · obtain ⟨_, lc, vb, vf, h2, h3, h4, _⟩ := j
        exact ⟨_, vb, h2, by kernel_rfl, h3⟩
      · obtain ⟨_, lc, vb, vf, h2, h3, h4, h5, _⟩ := id j
        have hl := h5.len
        rw [List.length_map] at hl
        exact ⟨vb, h3, by simp at hl; omega, fun v pv => ⟨_, _, lo_b lo hx, l1_addB j h3 (nTup_w pv)⟩⟩
    · exact sm_wkM (r1 := l1R K a (n + 201 + 20 * i + 1) ⟨"", z0 - 1, rows, bes, far⟩) rfl (fun H j => ⟨_, _, lo_b0 lo hx, j⟩) (fun H σ e => e) sm_next
    refine sm_pre (rs := fun (bf : List (Int × Int) × List ((Int × Int) × Int)) => l1R K a (n + 201 + 20 * i + 1) ⟨"", z0 - 1, rows, bf.1, bf.2⟩) (fun _ => rfl) fun H ⟨bes, far, lo, hj⟩ => ⟨(bes, far), hj, ?_⟩
    have lb2 := (lo_len l4 lo).2
    have gS := lo_ok (by omega) ok l1 l4 rfl lo
    refine sm_ifU (r1 := l1R K a (n + 201 + 20 * i + 2) ⟨"", z0 - 1, rows, bes, far⟩) (Pb := fun _ => True) rfl (tmu_and (b := decide (0 < h)) (td_test (ed_gt (ed_var (i := 3)) ed_c)) (fun H j => l1_le (by omega) j) (fun _ => True.intro) (fun hb => tmu_eqR (fun _ => True.intro) (lr_fr rfl (htk a.p (n + 201 + 20 * i + 1) (by omega) _ rfl _ h (ed_var (i := 3)) ⟨by have := of_decide_eq_true hb; omega, c2.2⟩) hidL_rng))) (fun _ => ?_) (fun _ => ?_)
    · refine sm_appD (l := a.lf) (s := "far") (d := dTup K [nTupI (pairI x), dRng 1 9999]) (r1 := l1R K a (n + 201 + 20 * i + 2 + 10) ⟨"", z0 - 1, rows, bes, far⟩) rfl (fun H j => ?_) (lr_fr rfl (em_tup rfl (ema_cons rfl (em_var (i := 5)) (ema_cons (r1 := potR a.p (n + 201 + 20 * i + 2 + 10)) rfl (em_call (E := E0) (R := R_law_distance K) (r := potR a.p (n + 201 + 20 * i + 2)) (r1 := potR a.p (n + 201 + 20 * i + 2)) (r' := potR a.p (n + 201 + 20 * i + 2 + 10)) rfl (ema_cons rfl em_var (ema_cons rfl (em_var (i := 4)) (ema_cons rfl (em_w (em_var (i := 5))) ema_nil))) ⟨a.p, n + 201 + 20 * i + 2, _, x.1, x.2, gS.ok, ⟨⟨by omega, by show x.1 < (rows.length : Int); omega⟩, ⟨by omega, hin.2.2⟩⟩, by omega, rfl, rfl, rfl, rfl⟩) ema_nil)) (by simp)) hidL_far9) rfl (by simp [l1R, LrA.as]) (fun H j => ?_)
      · obtain ⟨_, lc, vb, vf, h2, h3, h4, _⟩ := j
        exact ⟨_, vf, h2, by kernel_rfl, h4⟩
      · obtain ⟨_, lc, vb, vf, h2, h3, h4, h5, h6, _⟩ := id j
        have hl := h6.len
        rw [List.length_map] at hl
        refine ⟨vf, h4, by simp at hl; omega, fun v pv => ?_⟩
        obtain ⟨k, hk, pk⟩ := far_of pv
        exact ⟨_, _, lo_f lo hx hk, l1_le (by omega) (l1_addF j h4 pk)⟩
    · exact sm_wkM (r1 := l1R K a (n + 201 + 20 * i + 2) ⟨"", z0 - 1, rows, bes, far⟩) rfl (fun H j => ⟨_, _, lo_f0 lo hx, l1_le (by omega) j⟩) (fun H σ e => e) sm_next
  · rw [List.length_map]
    refine sm_post (r1 := lX K a (n + 201 + 20 * (pairsN rows.length).length) z0 rows (pairsN rows.length).length (pairsN rows.length).length) (fun H ⟨bes, far, lo, j⟩ => ⟨_, lo_ok (by omega) ok l1 l4 rfl lo, l1_le (by omega) j⟩) (fun H v h => h) (sm_ret (em_var (i := 4)))

end
end Sl
namespace Sl
open PySem PySem.Spec PyProof.Rows L2 StX RZ
open Evl (Ex ex_l ex_t ex_rd sq_of st_of sz_of sz_lt fresh_back)
local macro_rules | `(tactic| walk_at "sd") => `(tactic| first | assumption | omega | decide | (constructor <;> assumption) | (constructor <;> omega))
section
variable {P : Program} {w : World} {K : PySem.W.Frag} {mg : Str → Option Value} {base : Heap}

/-! ### a def that hands back a fresh object -/
def spF (R : List Dt → Dt → Prop) : Sp := fun vs H Q _ => ∃ ds d, R ds d ∧ All2 H ds vs ∧ ∀ v H', Ex H H' → d.P H' v → (∃ a, v = .ref a ∧ H a = none) → Q v H'
def SdF (t : TS) (ρ : Rho) (d : Dt) : Prop := ∀ H σ D, EnvOk H ρ σ → (∀ v H', Ex H H' → d.P H' v → (∃ a, v = .ref a ∧ H a = none) → D.rt v H') → t D σ H
theorem ex_none {H H' : Hp} (e : Ex H H') {a : Addr} (h : H' a = none) : H a = none := by
  cases q : H a with
  | none => rfl
  | some o => rw [e _ _ q] at h; cases h
theorem sdF_seq {s1 s2 : TS} {ρ ρ1 : Rho} {d : Dt} (h1 : Sd s1 ρ (.nx ρ1)) (h2 : SdF s2 ρ1 d) : SdF (tSeq s1 s2) ρ d := fun H σ D e k => h1 H σ { D with nx := s2 D } e fun σ' H' e' en => h2 H' σ' D en fun v H2 e2 p ⟨a, ha, hn⟩ => k v H2 (e'.trans e2) p ⟨a, ha, ex_none e' hn⟩
theorem sdF_ret {te : TE} {ρ : Rho} {d : Dt} (h : EdF te ρ d) : SdF (tRet te) ρ d := fun H σ D e k => h H σ e _ k
theorem edF_lst {t : TA} {ρ : Rho} {ds : List Dt} (h : EdA t ρ ds) (hl : ds.length ≤ 100000) : EdF (tLst t) ρ (dLst K ds) := fun H σ e Q q =>
  h H σ e _ fun vs H1 e1 p1 => ⟨sz_of (by rw [← p1.len]; exact hl), fun p hp => q _ _ (e1.trans (Ex.new hp)) ⟨p, vs, rfl, upd_same, p1.mono (Ex.new hp)⟩ ⟨p, rfl, ex_none e1 hp⟩⟩
theorem edF_imp {te : TE} {ρ : Rho} {d d' : Dt} (h : EdF te ρ d) (f : ∀ H v, d.P H v → d'.P H v) : EdF te ρ d' := fun H σ e Q q => h H σ e Q fun v H' e' p n => q v H' e' (f _ _ p) n
theorem edF_call {R : List Dt → Dt → Prop} {E : XK} {t : TA} {ρ : Rho} {ds : List Dt} {d : Dt} (h : EdA t ρ ds) (hr : R ds d) : EdF (tCall (spF R) [] E t) ρ d := fun H σ e Q q =>
  h H σ e _ fun vs H1 e1 p1 => ⟨ds, d, hr, by rw [List.append_nil]; exact p1, fun v H2 e2 p2 ⟨a, ha, hn⟩ => q v H2 (e1.trans e2) p2 ⟨a, ha, ex_none e1 hn⟩⟩
theorem fn_F {x qual : Str} {params : Arguments} {body : List Stmt} {scope : Scope} {dvs : List V} {kws : List (Str × V)} {f : Addr} {fd : FuncData} {N ps : List Str} {k : Nat} {R : List Dt → Dt → Prop}
    (F : FunD K x qual params body scope dvs kws f fd) (S : FnScope N ps scope) (hl : ∀ ds d, R ds d → ds.length = ps.length)
    (hb : ∀ (cdv : Value) (A : Around) (outer : List Env) (s : Shared) (H : Hp) (E : XK), Room k (A.deeper (envOfC qual scope s.heap.objs.size f cdv)) →
      ∃ t, PSs (cxOf CX0 P w K mg base N qual scope f cdv A outer s H E).nox body t ∧ ∀ ds d, R ds d → SdF t (ds.map some ++ List.replicate (N.length - ds.length) none) d) : FnOk P w K mg base CX0 (k + 1) f fd ps (spF R) := by
  refine F.ok S (fun vs H Q E ⟨ds, d, r, h, _⟩ => ?_) (fun cdv A outer s H vs Q E hr ⟨ds, d, r, h, q⟩ => ?_)
  · rw [← hl ds d r, h.len]
  · obtain ⟨t, ht, hs⟩ := hb cdv A outer s H E hr
    refine ⟨t, ht.nox, hs ds d r H _ _ ?_ q⟩
    unfold L2.start
    rw [← h.len]
    exact EnvOk.start h _
/-! ### great powers -/
def CPowW (i j : Int) : Prop := 0 ≤ j ∧ (Builtin.Int.intBits i : Int) * j ≤ 2 ^ 27
theorem op_powW {X : Cx} : OpR X (binaryOp .Pow) (rI CPowW fun i j => .int (i ^ j.toNat)) := opI fun _ _ _ _ _ _ _ hc q => pow_int hc.1 hc.2 q
theorem ed_powW {ρ : Rho} {ta tb : TE} {i j : Int} (ha : Ed ta ρ (dI i)) (hb : Ed tb ρ (dI j)) (h : CPowW i j) : Ed (tOp (rI CPowW fun i j => .int (i ^ j.toNat)) ta tb) ρ (dI (i ^ j.toNat)) := ed_op ha hb (rd_I h)
/-- a new pot -/
def dPot : Dt := ⟨fun H v => ∃ p x y, v = .ref p ∧ H p = some (.lst [.int x, .int y, .int 0]) ∧ PotOk x y 0 0, fun e ⟨p, x, y, h1, h2, h3⟩ => ⟨p, x, y, h1, e _ _ h2, h3⟩⟩
theorem b01 (b : Bool) : (0 : Int) ≤ (if b then 1 else 0) ∧ (if b then (1 : Int) else 0) ≤ 1 := by cases b <;> decide
theorem mul01 {x : Int} (b : Bool) (h : 0 ≤ x) : 0 ≤ x * (if b then (1 : Int) else 0) := Int.mul_nonneg h (b01 b).1
theorem cmul01 {x : Int} (b : Bool) : CMul x (if b then (1 : Int) else 0) := .inr (by cases b <;> decide)

/-- a list to be read alone -/
def dSq (K : PySem.W.Frag) (xs : List V) : Dt := ⟨fun H v => ∃ a, v = .ref a ∧ SqL K H a xs, fun e ⟨a, h1, h2⟩ => ⟨a, h1, ex_l e h2⟩⟩
theorem ed_ixSq {ρ : Rho} {ta tb : TE} {xs : List V} {i : Int} {v : V} (ha : Ed ta ρ (dSq K xs)) (hb : Ed tb ρ (dI i)) (e : atI xs i = some v) : Ed (tOp (rIxL K) ta tb) ρ (dV v) := ed_op ha hb fun H u w ⟨p, a, b⟩ q Q k => ⟨p, xs, i, v, a, q, b, e, k v H (Ex.refl H) rfl⟩
theorem cd_lenSq {xs : List V} : CD (rLenS K) [dSq K xs] (dI (xs.length : Int)) := fun H vs h Q q => by
  obtain ⟨v, rfl, p, rfl, b⟩ := all2_1 h
  exact ⟨p, xs, rfl, Or.inl b, q _ H (Ex.refl H) rfl⟩

/-! _law_pot -/
def R_law_pot (K : PySem.W.Frag) : List Dt → Dt → Prop := fun ds d => ∃ ns : List Int, ∃ k : Int, (ns.length ≤ 63) ∧ (0 ≤ k ∧ k ≤ 1) ∧ ds = [dSq K (ns.map V.int), dI k] ∧ d = dPot
abbrev N_law_pot : List Str := ["_law_script", "_law_k", "_law_cell", "_law_own_here", "_law_small"]
theorem sc_law_pot : FnScope N_law_pot ["_law_script", "_law_k"] (defScope s_law_pot) := ⟨rfl, rfl, rfl, by decide +kernel, rfl, by decide +kernel, by decide +kernel⟩
theorem fn_law_pot (T : Tx w K mg) : Fn0 P w K mg base 1 "_law_pot" ["_law_script", "_law_k"] (spF (R_law_pot K)) := by
  obtain ⟨fd, F⟩ := T.f_law_pot
  have nd := sc_law_pot.nd
  refine mk_fn T.g_law_pot F.kp (fn_F F sc_law_pot (by rintro _ _ ⟨ns, k, c0, c1, rfl, rfl⟩; rfl) (fun cdv A outer s H E hr => ?_)) (F.bindsN fun _ _ _ _ _ _ us hl => match us, hl with | [_, _], _ => rfl)
  have hu := hu_of hr
  have hu65 := hu65 hr
  refine ⟨_, (pss_cons (ps_set (i := 2) nd rfl (Or.inl rfl) (pe_ifExp (pt_cmpR op_lt (pv 1) (pe_bi (crK_len K) T.b_len (by decide +kernel) (pa_cons (pv 0) pa_nil)) (nomark _)) (pe_ix (ixK_list K) (pv 0) (pv 1) (fun _ _ => rfl)) (pe_op op_add (pe_op op_mul pe_int (pv 1)) pe_int))) (pss_cons (ps_set (i := 3) nd rfl (Or.inl rfl) (pe_op op_mul (pe_op op_mod (pe_bt call_int1 T.b_int (by decide +kernel) (pa_cons (pe_bi call_abs T.b_abs (by decide +kernel) (pa_cons (pv 2) pa_nil)) pa_nil)) (pe_op op_powW (pe_op op_pow pe_int pe_int) pe_int)) (pe_bt call_int1 T.b_int (by decide +kernel) (pa_cons (pe_cmpR op_ge (pe_bi call_abs T.b_abs (by decide +kernel) (pa_cons (pv 2) pa_nil)) (pe_op op_pow pe_int pe_int) (nomark _)) pa_nil)))) (pss_cons (ps_set (i := 4) nd rfl (Or.inl rfl) (pe_op op_mod (pe_bt call_int1 T.b_int (by decide +kernel) (pa_cons (pv 2) pa_nil)) pe_int)) (pss_one (ps_ret (pe_lst (pa_cons (pv 3) (pa_cons (pe_op op_mod (pe_bt call_int1 T.b_int (by decide +kernel) (pa_cons (pe_op op_add (pe_op op_add (pe_op op_mul (pv 4) pe_int) (pe_op op_mul (pe_op op_mul pe_int (pv 1)) (pv 1))) pe_int) pa_nil)) pe_int) (pa_cons pe_int pa_nil))))))))), ?_⟩
  rintro _ _ ⟨ns, k, c0, c1, rfl, rfl⟩
  obtain ⟨c, hc⟩ : ∃ c : Int, c = if k < (ns.length : Int) then ns.getD k.toNat 0 else 47 * k + 19 := ⟨_, rfl⟩
  refine sdF_seq (sd_set (d := dI c) (ed_if (td_test (ed_lt ed_var (ed_cb (eda_cons ed_var eda_nil) cd_lenSq))) (fun hb => ?_) fun hb => ?_)) ?_
  · have hb' := of_decide_eq_true hb
    rw [List.length_map] at hb'
    refine ed_ixSq (K := K) (v := V.int c) ed_var ed_var (atI_in c1.1 ?_)
    have hl : k.toNat < ns.length := by omega
    rw [hc, if_pos hb', List.getElem?_map, List.getElem?_eq_getElem hl, List.getD_eq_getElem?_getD, List.getElem?_eq_getElem hl]
    rfl
  · have hb' := of_decide_eq_false hb
    rw [List.length_map] at hb'
    rw [hc, if_neg hb']
    exact ed_add (ed_mul ed_c ed_var (.inl ⟨by decide, by decide⟩)) ed_c
  generalize hM : ((10 : Int) ^ (60 : Int).toNat) = M
  have hbits : (Builtin.Int.intBits M : Int) * 5 ≤ 2 ^ 27 := by rw [← hM]; decide +kernel
  have hMp : 0 < M ^ (5 : Int).toNat := by
    refine Int.pow_pos ?_
    rw [← hM]
    exact Int.pow_pos (by decide)
  obtain ⟨x, hx⟩ : ∃ x : Int, x = (if c < 0 then -c else c) % M ^ (5 : Int).toNat * (if decide ((10 : Int) ^ (18 : Int).toNat ≤ (if c < 0 then -c else c)) then 1 else 0) := ⟨_, rfl⟩
  have hx0 : 0 ≤ x := by
    have h1 := Int.emod_nonneg (if c < 0 then -c else c) (Int.ne_of_gt hMp)
    rw [hx]
    exact mul01 _ h1
  refine sdF_seq (sd_set (d := dI x) (ed_is (ed_mul (ed_mod (ed_cb (eda_cons (ed_cb (eda_cons (ed_var (i := 2)) eda_nil) cd_abs) eda_nil) cd_int) (ed_powW (i := M) (by rw [← hM]; exact ed_pow ed_c ed_c ⟨by decide, by decide, by decide⟩) ed_c ⟨by decide, hbits⟩) hMp) (ed_cb (eda_cons (ed_ge (ed_cb (eda_cons (ed_var (i := 2)) eda_nil) cd_abs) (ed_pow ed_c ed_c ⟨by decide, by decide, by decide⟩)) eda_nil) cd_intB) (cmul01 _)) (by rw [hx]))) ?_
  have hy := Int.emod_nonneg c (show (2305843009213693951 : Int) ≠ 0 by decide)
  have hy2 := Int.emod_lt_of_pos c (show (0 : Int) < 2305843009213693951 by decide)
  refine sdF_seq (sd_set (d := dI (c % 2305843009213693951)) (ed_mod (ed_cb (eda_cons (ed_var (i := 2)) eda_nil) cd_int) ed_c (by decide))) ?_
  generalize c % 2305843009213693951 = y at hy hy2
  refine sdF_ret (edF_imp (d := dLst K [dI x, dI ((y * 70313 + 8111 * k * k + 83) % 2305843009213693921), dI 0]) (edF_lst (K := K) (eda_cons (ed_var (i := 3)) (eda_cons (ed_mod (ed_cb (eda_cons (ed_add (ed_add (ed_mul (ed_var (i := 4)) ed_c (.inr ⟨by decide, by decide⟩)) (ed_mul (ed_mul ed_c (ed_var (i := 1)) (.inl ⟨by decide, by decide⟩)) (ed_var (i := 1)) (.inr ⟨by omega, by omega⟩))) ed_c) eda_nil) cd_int) ed_c (by decide)) (eda_cons ed_c eda_nil))) (by simp)) (fun H v ⟨p, vs, h1, h2, h3⟩ => ?_))
  obtain ⟨v1, v2, v3, rfl, g1, g2, g3⟩ := all2_3 h3
  have g1' : v1 = .int _ := g1
  have g2' : v2 = .int _ := g2
  have g3' : v3 = .int _ := g3
  subst g1' g2' g3'
  exact ⟨p, _, _, h1, h2, hx0, Int.emod_nonneg _ (by decide), Int.emod_lt_of_pos _ (by decide), Int.le_refl _, Int.le_refl _⟩

end
end Sl
namespace Sl
open PySem PySem.Spec PyProof.Rows L2 StX RZ
open Evl (Ex ex_l ex_t ex_rd sq_of st_of sz_of sz_lt fresh_back)
local macro_rules | `(tactic| walk_at "sd") => `(tactic| first | assumption | omega | decide | (constructor <;> assumption) | (constructor <;> omega))
section
variable {P : Program} {w : World} {K : PySem.W.Frag} {mg : Str → Option Value} {base : Heap}

/-! ### the text of a lore -/
open TL
def besW (S : Sty) (p : Int × Int) : List Str := ["beside", (S.row p.1).name, (S.row p.2).name]
def farW (S : Sty) (p : (Int × Int) × Int) : List Str := ["far", (S.row p.1.1).name, (S.row p.1.2).name, numS p.2.toNat]
def zoomW (S : Sty) : List Str := ["zooms", numS (S.last + 1).toNat]
def wordsS (S : Sty) : List (List Str) := ((zoomW S :: S.rows.map rowWords) ++ S.beside.map (besW S)) ++ S.far.map (farW S)
def lineS (ws : List Str) : Str := Txt.join (" " : Str) ws
def textS (S : Sty) : Str := Txt.join ("\n" : Str) ((wordsS S).map lineS)
def GoodW (w : Str) : Prop := w.length ≤ 12 ∧ 32 ∉ tl w ∧ 10 ∉ tl w
def GoodWs (ws : List Str) : Prop := ws.length ≤ 10 ∧ ∀ w ∈ ws, GoodW w
theorem goodw_name {s : Str} (h : IsName s) : GoodW s := ⟨h.2.1, fun e => by have := h.2.2 32 e; unfold isLow at this; omega, fun e => by have := h.2.2 10 e; unfold isLow at this; omega⟩
theorem goodw_num {n : Nat} (h : n < 100000) : GoodW (numS n) := ⟨by
  have := numL_len (n := n) (k := 5) (by decide) (by omega)
  rw [len_tl, show tl (numS n) = numL n from numS_tl n]
  omega, fun e => by have := numS_dig n 32 e; omega, fun e => by have := numS_dig n 10 e; omega⟩
theorem goodw_lit {s : Str} (h : (decide (s.length ≤ 12) && (!decide (32 ∈ tl s) && !decide (10 ∈ tl s))) = true) : GoodW s := by
  simp only [Bool.and_eq_true, decide_eq_true_eq, Bool.not_eq_true', decide_eq_false_iff_not] at h
  exact ⟨h.1, h.2.1, h.2.2⟩
theorem joinL_mem {Z : List Nat} {c : Nat} : ∀ {ps : List (List Nat)}, c ∈ joinL Z ps → c ∈ Z ∨ ∃ p ∈ ps, c ∈ p
  | [], h => by cases h
  | [p], h => .inr ⟨p, List.mem_singleton.mpr rfl, h⟩
  | p :: q :: r, h => by
    rcases List.mem_append.mp h with h | h
    · exact .inr ⟨p, List.mem_cons_self, h⟩
    · rcases List.mem_append.mp h with h | h
      · exact .inl h
      · rcases joinL_mem h with h | ⟨x, hx, h⟩
        · exact .inl h
        · exact .inr ⟨x, List.mem_cons_of_mem _ hx, h⟩
theorem joinL_len {Z : List Nat} {b : Nat} : ∀ {ps : List (List Nat)}, (∀ p ∈ ps, p.length ≤ b) → (joinL Z ps).length ≤ ps.length * (b + Z.length)
  | [], _ => Nat.zero_le _
  | [p], h => by
    have := h p (List.mem_singleton.mpr rfl)
    show p.length ≤ 1 * (b + Z.length)
    omega
  | p :: q :: r, h => by
    have h1 := h p List.mem_cons_self
    have h2 := joinL_len (Z := Z) (ps := q :: r) fun x hx => h x (List.mem_cons_of_mem _ hx)
    show (p ++ (Z ++ joinL Z (q :: r))).length ≤ _
    rw [List.length_append, List.length_append, List.length_cons (a := p), Nat.succ_mul]
    omega
theorem join_mem {y : Str} {c : Nat} {ws : List Str} (h : c ∈ tl (Txt.join y ws)) : c ∈ tl y ∨ ∃ w ∈ ws, c ∈ tl w := by
  rw [join_eq, tl_join] at h
  rcases joinL_mem h with h | ⟨p, hp, h⟩
  · exact .inl h
  · obtain ⟨w, hw, rfl⟩ := List.mem_map.mp hp
    exact .inr ⟨w, hw, h⟩
theorem join_len {y : Str} {b : Nat} {ws : List Str} (h : ∀ w ∈ ws, w.length ≤ b) : (Txt.join y ws).length ≤ ws.length * (b + y.length) := by
  have := joinL_len (Z := tl y) (b := b) (ps := ws.map tl) fun p hp => by
    obtain ⟨w, hw, rfl⟩ := List.mem_map.mp hp
    rw [← len_tl]
    exact h w hw
  rw [len_tl, join_eq, tl_join, len_tl y]
  simpa using this
theorem sp_tl : tl (" " : Str) = [32] := by decide +kernel
theorem nl_tl : tl ("\n" : Str) = [10] := by decide +kernel
theorem sp_len : (" " : Str).length = 1 := by decide +kernel
theorem nl_len : ("\n" : Str).length = 1 := by decide +kernel
theorem line_ok {ws : List Str} (h : GoodWs ws) : (lineS ws).length ≤ 130 ∧ 10 ∉ tl (lineS ws) := by
  constructor
  · have := join_len (y := (" " : Str)) (b := 12) (ws := ws) fun w hw => (h.2 w hw).1
    rw [sp_len] at this
    have h1 := h.1
    show (Txt.join (" " : Str) ws).length ≤ 130
    omega
  · intro e
    rcases join_mem e with e | ⟨w, hw, e⟩
    · rw [sp_tl] at e
      simp at e
    · exact (h.2 w hw).2.2 e
theorem sum_le {b : Nat} : ∀ {ws : List Str}, (∀ w ∈ ws, w.length ≤ b) → (ws.map (·.length)).sum ≤ ws.length * b
  | [], _ => Nat.zero_le _
  | w :: ws, h => by
    have h1 := h w List.mem_cons_self
    have h2 := sum_le (ws := ws) fun x hx => h x (List.mem_cons_of_mem _ hx)
    rw [List.map_cons, List.sum_cons, List.length_cons, Nat.succ_mul]
    omega
section
variable {S : Sty}
theorem good_len (g : GoodS S) : S.beside.length ≤ 16 ∧ S.far.length ≤ 16 := by
  have hl := pairsTo_len g.ok.n4 (i := S.rows.length) (Nat.le_refl _)
  have l1 : S.beside.length ≤ (pairsTo S.rows.length S.rows.length).length := g.bs.length_le
  have l2 : (S.far.map (·.1)).length ≤ (pairsTo S.rows.length S.rows.length).length := g.fs.length_le
  rw [List.length_map] at l2
  have := g.ok.n4
  omega
theorem good_b (g : GoodS S) {p : Int × Int} (h : p ∈ S.beside) : S.In p.1 ∧ S.In p.2 ∧ p.1 ≤ p.2 := by
  have := pairsN_in (g.bs.subset h)
  exact ⟨⟨by omega, by omega⟩, ⟨by omega, by omega⟩, this.2.1⟩
theorem good_f (g : GoodS S) {p : (Int × Int) × Int} (h : p ∈ S.far) : S.In p.1.1 ∧ S.In p.1.2 ∧ p.1.1 ≤ p.1.2 ∧ 1 ≤ p.2 ∧ p.2 ≤ 9999 := by
  have := pairsN_in (g.fs.subset (List.mem_map_of_mem h))
  exact ⟨⟨by omega, by omega⟩, ⟨by omega, by omega⟩, this.2.1, g.ok.fd p h⟩
theorem goodw_row (g : GoodS S) {i : Int} (h : S.In i) : GoodW (S.row i).name := goodw_name (h.ok g.ok).nm
theorem row_ws (g : GoodS S) {r : Row} (h : r ∈ S.rows) : GoodWs (rowWords r) := by
  have o := g.ok.rw r h
  have gz := g.gs r h
  have := g.ok.z4
  have := o.f0
  have := o.l9
  have := o.l0
  have := o.m0
  have := o.m3
  have := o.sl
  have := o.s1
  refine ⟨?_, fun w hw => ?_⟩
  · have := gz.2.1
    simp [rowWords]
    omega
  · unfold rowWords at hw
    rcases List.mem_append.mp hw with hw | hw
    · simp only [List.mem_cons, List.not_mem_nil, or_false] at hw
      rcases hw with rfl | rfl | rfl | rfl | rfl
      · exact goodw_lit (by decide +kernel)
      · exact goodw_name o.nm
      · exact goodw_num (by omega)
      · exact goodw_num (by omega)
      · exact goodw_num (by omega)
    · obtain ⟨n, hn, rfl⟩ := List.mem_map.mp hw
      have := o.sz n hn
      exact goodw_num (by omega)
theorem zoom_ws (g : GoodS S) : GoodWs (zoomW S) := ⟨by simp [zoomW], fun w hw => by
  have := g.ok.z4
  have := g.ok.z0
  simp only [zoomW, List.mem_cons, List.not_mem_nil, or_false] at hw
  rcases hw with rfl | rfl
  · exact goodw_lit (by decide +kernel)
  · exact goodw_num (by omega)⟩
theorem bes_ws (g : GoodS S) {p : Int × Int} (h : p ∈ S.beside) : GoodWs (besW S p) := ⟨by simp [besW], fun w hw => by
  obtain ⟨h1, h2, _⟩ := good_b g h
  simp only [besW, List.mem_cons, List.not_mem_nil, or_false] at hw
  rcases hw with rfl | rfl | rfl
  · exact goodw_lit (by decide +kernel)
  · exact goodw_row g h1
  · exact goodw_row g h2⟩
theorem far_ws (g : GoodS S) {p : (Int × Int) × Int} (h : p ∈ S.far) : GoodWs (farW S p) := ⟨by simp [farW], fun w hw => by
  obtain ⟨h1, h2, h3, h4⟩ := good_f g h
  simp only [farW, List.mem_cons, List.not_mem_nil, or_false] at hw
  rcases hw with rfl | rfl | rfl | rfl
  · exact goodw_lit (by decide +kernel)
  · exact goodw_row g h1
  · exact goodw_row g h2
  · exact goodw_num (by omega)⟩
theorem words_ok (g : GoodS S) : ∀ ws ∈ wordsS S, GoodWs ws := fun ws h => by
  unfold wordsS at h
  rcases List.mem_append.mp h with h | h
  · rcases List.mem_append.mp h with h | h
    · rcases List.mem_cons.mp h with rfl | h
      · exact zoom_ws g
      · obtain ⟨r, hr, rfl⟩ := List.mem_map.mp h
        exact row_ws g hr
    · obtain ⟨r, hr, rfl⟩ := List.mem_map.mp h
      exact bes_ws g hr
  · obtain ⟨r, hr, rfl⟩ := List.mem_map.mp h
    exact far_ws g hr
theorem words_len (g : GoodS S) : (wordsS S).length ≤ 37 := by
  have := good_len g
  have := g.ok.n4
  simp [wordsS]
  omega
end
section
variable {ρ : Rho} {ta tb te te1 te2 : TE} {s2 : TS} {d x : Dt}
theorem ed_joinS {ws : List Str} {sep : Str} (ha : Ed ta ρ (dS sep)) (hb : Ed tb ρ (dLst K (ws.map fun s => dS s))) (h : (ws.map (·.length)).sum + ws.length * sep.length ≤ 16777216) :
    Ed (tM1 (fun x xs H Q => ∃ a p, ∃ ys : List Str, x = .str a ∧ xs = [.ref p] ∧ (SqL K H p (ys.map V.str) ∨ SqT K H p (ys.map V.str)) ∧ (ys.map (·.length)).sum + ys.length * a.length ≤ 16777216 ∧ Q (.str (Txt.join a ys)) H) ta tb) ρ (dS (Txt.join sep ws)) := fun H σ e Q q =>
  ha H σ e _ fun u H1 e1 p1 => by
    have p1' : u = .str sep := p1
    subst p1'
    exact ⟨⟨sep, rfl⟩, hb H1 σ (e.mono e1) _ fun v H2 e2 ⟨p, vs, a, b, c⟩ => by
      have hv := strs_all2 c
      subst hv a
      exact ⟨sep, p, ws, rfl, rfl, .inl (sq_of b), h, q _ H2 (e1.trans e2) rfl⟩⟩
theorem ed_joinW {ws : List Str} (hb : Ed tb ρ (dLst K (ws.map fun s => dS s))) (h : GoodWs ws) :
    Ed (tM1 (fun x xs H Q => ∃ a p, ∃ ys : List Str, x = .str a ∧ xs = [.ref p] ∧ (SqL K H p (ys.map V.str) ∨ SqT K H p (ys.map V.str)) ∧ (ys.map (·.length)).sum + ys.length * a.length ≤ 16777216 ∧ Q (.str (Txt.join a ys)) H) (tC (.str " ")) tb) ρ (dS (lineS ws)) := ed_joinS ed_c hb (by
  have := sum_le (b := 12) (ws := ws) fun w hw => (h.2 w hw).1
  have := h.1
  rw [sp_len]
  omega)
theorem log_small {n : Nat} (h : n < 100000) : n.log2 < 1920 := by
  rcases Nat.eq_zero_or_pos n with e | e
  · subst e
    decide
  · refine (Nat.log2_lt (by omega)).mpr (Nat.lt_trans (Nat.lt_trans h (by decide : 100000 < 2 ^ 20)) ?_)
    exact Nat.pow_lt_pow_right (by decide) (by decide)
theorem cd_strZ {i : Int} (h : 0 ≤ i ∧ i < 100000) : CD rStrI [dI i] (dS (numS i.toNat)) := by
  have e : numS i.toNat = (Str.ofString (toString i)) := by
    unfold numS
    rw [Int.toNat_of_nonneg h.1]
  rw [e]
  exact cd_strI (log_small (by omega))
theorem ef_lc0 {α : Type} {wi : TI} {g : TG} {vs js : List Nat} (xs : List α) (φ : α → Dt) (ψ : α → Dt) (hw : Wd wi ρ (xs.map φ)) (hz : xs.length ≤ 40000) (hj : ∀ j ∈ js, j ∈ vs) (hi : ∀ a ∈ xs, Imm (ψ a))
    (ht : ∀ a ∈ xs, ∃ ρ1, Gd g (φ a) js (wpR ρ vs) ρ1 ∧ Ed te ρ1 (ψ a)) : EdF (tLc wi g tYes te vs) ρ (dLst K (xs.map ψ)) := by
  have h := ef_lc (K := K) (te := te) (tt := tYes) xs φ (fun _ => true) ψ hw hz hj (fun a ha _ => hi a ha) fun a ha => let ⟨ρ1, h1, h2⟩ := ht a ha; ⟨ρ1, h1, td_yes, fun _ => h2⟩
  rw [List.filter_eq_self.mpr (fun _ _ => rfl)] at h
  exact h
/-- x, y = [e], names -/
theorem sd_ownN {k m : Nat} {ns : List Str} (h1 : Ed te1 ρ x) (hx : Imm x) (h2 : EdF te2 ρ (dLst K (ns.map fun s => dS s))) (h : S1 K k s2 [x] ((ρ.set k none).set m (some (dLst K (ns.map fun s => dS s)))) (List.replicate ρ.length none) (.ret d)) (hk : k < ρ.length) (hm : m ≠ k) :
    Sd (tSeq (tPar k m (tCons (tLst (tCons te1 tNil)) (tCons te2 tNil))) s2) ρ (.ret d) := fun H σ D e q =>
  h1 H σ e _ fun v H1 e1 pv => ⟨by show 1 ≤ _; rw [sizeLine_eq]; omega, fun p hp => h2 _ σ ((e.mono e1).mono (Ex.new hp)) _ fun u H2 e2 ⟨n, vs, eu, hn, hall⟩ ⟨n', en', hf⟩ => ⟨.ref p, u, rfl, by
    subst eu
    cases en'
    have hnp : n ≠ p := fun z => by rw [z, upd_same] at hf; cases hf
    have hv := strs_all2 hall
    subst hv
    have hpB : hide p H2 p = none := hide_at
    have e12 : Ex H1 (hide p H2) := fun b o hb => by
      have hbp : b ≠ p := fun z => by rw [z, hp] at hb; cases hb
      rw [hide_ne hbp]
      exact e2 b o (by rw [upd_ne hbp]; exact hb)
    refine h (hide p H2) H2 _ D ⟨⟨p, [v], by rw [List.getElem?_set_ne hm, List.getElem?_set_self (by rw [← e.len]; exact hk)], e2 _ _ upd_same, hpB, ⟨x.mono (e12.trans hide_ex) pv, True.intro⟩⟩, hide_ex, (fun d' hd => by rw [List.mem_singleton.mp hd]; exact hx), ((e.mono (e1.trans e12)).unset _ k).set (d := dLst K (ns.map fun s => dS s)) ⟨n, _, rfl, by rw [hide_ne hnp]; exact hn, All2.of_vals V.str ns⟩ m, by
      have := nones_ok (H := H2) (σ := (σ.set k (some (.ref p))).set m (some (.ref n)))
      rw [List.length_set, List.length_set, ← e.len] at this
      exact this, nones_imm⟩ fun w H' e' pw => q w H' ((e1.trans e12).trans e') pw⟩⟩
theorem wdb_lore {S : Sty} {k i : Nat} {s : Str} {ds es : List Dt} {ρb ρi : Rho} (h : ρb[i]? = some (some (dLore K S))) (hs : ∀ H v, (dLore K S).P H v → ∃ a kvs l, v = .ref a ∧ H a = some (.dK kvs) ∧ valV kvs (Sum.inr s) = some (.ref l) ∧ (dLst K es).P H (.ref l)) : WdB K (iList K (tDGet (tVar i) (tC (.str s)))) k ds ρb ρi es := fun B H σ e R q => by
  obtain ⟨v, h1, p1⟩ := e.eb.get h
  obtain ⟨a, kvs, l, rfl, g1, g2, p, vs, g3, b, c⟩ := hs B v p1
  cases g3
  exact ⟨_, h1, a, .ref l, rfl, g2 ▸ DGet.k (k := Sum.inr s) (e.ex _ _ g1), l, rfl, ⟨vs, sq_of (e.ex _ _ b)⟩, q _ H (Ex.refl H) (itok_of (walk_list (K := K) (a := l) (xs := vs)) c.len (fun H2 e2 => sq_of (e2 _ _ b)) fun i d H2 x H3 e2 hd y => yat_ok c e2 hd y)⟩
theorem lore_c {S : Sty} : ∀ H v, (dLore K S).P H v → ∃ a kvs l, v = .ref a ∧ H a = some (.dK kvs) ∧ valV kvs (Sum.inr ("classes" : Str)) = some (.ref l) ∧ (dLst K (S.rows.map (clsD K))).P H (.ref l) := fun H v ⟨a, lb, lf, lc, h1, h2, h3, h4, h5⟩ => ⟨a, _, lc, h1, h2, by kernel_rfl, h5⟩
theorem lore_b {S : Sty} : ∀ H v, (dLore K S).P H v → ∃ a kvs l, v = .ref a ∧ H a = some (.dK kvs) ∧ valV kvs (Sum.inr ("beside" : Str)) = some (.ref l) ∧ (dLst K (S.beside.map fun p => tupI K (pairI p))).P H (.ref l) := fun H v ⟨a, lb, lf, lc, h1, h2, h3, h4, h5⟩ => ⟨a, _, lb, h1, h2, by kernel_rfl, h3⟩
theorem lore_f {S : Sty} : ∀ H v, (dLore K S).P H v → ∃ a kvs l, v = .ref a ∧ H a = some (.dK kvs) ∧ valV kvs (Sum.inr ("far" : Str)) = some (.ref l) ∧ (dLst K (S.far.map (farD K))).P H (.ref l) := fun H v ⟨a, lb, lf, lc, h1, h2, h3, h4, h5⟩ => ⟨a, _, lf, h1, h2, by kernel_rfl, h4⟩
def lineD (l : List (List Str)) : List Dt := l.map fun ws => dS (lineS ws)
theorem at_nm {S : Sty} {i : Int} (h : S.In i) : atI ((S.rows.map Row.name).map fun s => dS s) i = some (dS (S.row i).name) := atI_in h.1 (by rw [List.getElem?_map, List.getElem?_map, h.get]; rfl)
end
theorem zoom_line (S : Sty) : ("zooms " : Str) ++ numS (S.last + 1).toNat = lineS (zoomW S) := by
  refine ext_tl ?_
  show _ = tl (Txt.join (" " : Str) ["zooms", numS (S.last + 1).toNat])
  rw [join_eq, tl_join, tl_append]
  show _ = tl ("zooms" : Str) ++ (tl (" " : Str) ++ tl (numS (S.last + 1).toNat))
  rw [← List.append_assoc]
  congr 1
theorem map_next {α : Type} {l : List α} {i : Nat} {x : α} {f : α → List Str} (pre : List (List Str)) (h : l[i]? = some x) : lineD (pre ++ (l.take (i + 1)).map f) = lineD (pre ++ (l.take i).map f) ++ [dS (lineS (f x))] := by
  rw [take_next h]
  unfold lineD
  simp

/-! _law_text -/
def R_law_text (K : PySem.W.Frag) : List Dt → Dt → Prop := fun ds d => ∃ S : Sty, (GoodS S) ∧ ds = [dLore K S] ∧ d = dS (textS S)
abbrev N_law_text : List Str := ["_law_lore_here", "_law_lines", "_law_names", "_law_one", "_law_name_here", "_law_first", "_law_least", "_law_most", "_law_sizes_here", "_law_size", "_law_i", "_law_j", "_law_pair_here", "_law_distance_here"]
theorem sc_law_text : FnScope N_law_text ["_law_lore_here"] (defScope s_law_text) := ⟨rfl, rfl, rfl, by decide +kernel, rfl, by decide +kernel, by decide +kernel⟩
theorem fn_law_text (T : Tx w K mg) : Fn0 P w K mg base 1 "_law_text" ["_law_lore_here"] (spP (R_law_text K)) := by
  obtain ⟨fd, F⟩ := T.f_law_text
  have nd := sc_law_text.nd
  refine mk_fn T.g_law_text F.kp (fn_pure F sc_law_text (by rintro _ _ ⟨S, c0, rfl, rfl⟩; rfl) (fun cdv A outer s H E hr => ?_)) (F.bindsN fun _ _ _ _ _ _ us hl => match us, hl with | [_], _ => rfl)
  have hu := hu_of hr
  have hu65 := hu65 hr
  refine ⟨_, (pss_cons (ps_par (i := 1) (j := 2) (by rfl) nd rfl rfl (by decide) rfl rfl (pa_cons (pe_lst (pa_cons (pe_op op_add_str pe_str (pe_bt call_str_int T.b_str (by decide +kernel) (pa_cons (pe_dgetF hu (pv 0) pe_str (fun _ _ => rfl)) pa_nil))) pa_nil)) (pa_cons (pe_lc (own := [("_law_one", 3)]) (by rfl) nd (pi_listK K (pe_dgetF hu (pv 0) pe_str (fun _ _ => rfl))) (blkOk_by (N := N_law_text) (sc := defScope s_law_text) (by decide +kernel)) (fun _ _ _ _ _ => (pg_name (i := 3) nd rfl (Or.inl rfl))) (fun _ _ _ _ _ => pts_nil) (fun _ _ _ _ _ => (pe_ix (ixK_tup K) (pv 3) pe_int (fun _ _ => rfl)))) pa_nil)) (by rfl)) (pss_cons (ps_for PassesOwn.never rfl (pi_listK K (pe_dgetF hu (pv 0) pe_str (fun _ _ => rfl))) (pg_tupK K (n := 5) (pgs_cons (pg_name (i := 4) nd rfl (Or.inl rfl)) (pgs_cons (pg_name (i := 5) nd rfl (Or.inl rfl)) (pgs_cons (pg_name (i := 6) nd rfl (Or.inl rfl)) (pgs_cons (pg_name (i := 7) nd rfl (Or.inl rfl)) (pgs_cons (pg_name (i := 8) nd rfl (Or.inl rfl)) pgs_nil)))))) (pss_one (ps_expr (pe_bm PySem.F.plainAttrs_list PySem.F.slot_list_append PySem.F.type_list_append mt_append (pv 1) (pa_cons (pe_join pe_str (pe_op op_cat (pe_lst (pa_cons pe_str (pa_cons (pv 4) (pa_cons (pe_bt call_str_int T.b_str (by decide +kernel) (pa_cons (pv 5) pa_nil)) (pa_cons (pe_bt call_str_int T.b_str (by decide +kernel) (pa_cons (pv 6) pa_nil)) (pa_cons (pe_bt call_str_int T.b_str (by decide +kernel) (pa_cons (pv 7) pa_nil)) pa_nil)))))) (pe_lc (own := [("_law_size", 9)]) (by rfl) nd (pi_tupK K (pv 8)) (blkOk_by (N := N_law_text) (sc := defScope s_law_text) (by decide +kernel)) (fun _ _ _ _ _ => (pg_name (i := 9) nd rfl (Or.inl rfl))) (fun _ _ _ _ _ => pts_nil) (fun _ _ _ _ _ => (pe_bt call_str_int T.b_str (by decide +kernel) (pa_cons (pv 9) pa_nil)))))) pa_nil))))) (pss_cons (ps_for PassesOwn.never rfl (pi_listK K (pe_dgetF hu (pv 0) pe_str (fun _ _ => rfl))) (pg_tupK K (n := 2) (pgs_cons (pg_name (i := 10) nd rfl (Or.inl rfl)) (pgs_cons (pg_name (i := 11) nd rfl (Or.inl rfl)) pgs_nil))) (pss_one (ps_expr (pe_bm PySem.F.plainAttrs_list PySem.F.slot_list_append PySem.F.type_list_append mt_append (pv 1) (pa_cons (pe_join pe_str (pe_lst (pa_cons pe_str (pa_cons (pe_ix (ixK_list K) (pv 2) (pv 10) (fun _ _ => rfl)) (pa_cons (pe_ix (ixK_list K) (pv 2) (pv 11) (fun _ _ => rfl)) pa_nil))))) pa_nil))))) (pss_cons (ps_for PassesOwn.never rfl (pi_listK K (pe_dgetF hu (pv 0) pe_str (fun _ _ => rfl))) (pg_tupK K (n := 2) (pgs_cons (pg_name (i := 12) nd rfl (Or.inl rfl)) (pgs_cons (pg_name (i := 13) nd rfl (Or.inl rfl)) pgs_nil))) (pss_one (ps_expr (pe_bm PySem.F.plainAttrs_list PySem.F.slot_list_append PySem.F.type_list_append mt_append (pv 1) (pa_cons (pe_join pe_str (pe_lst (pa_cons pe_str (pa_cons (pe_ix (ixK_list K) (pv 2) (pe_ix (ixK_tup K) (pv 12) pe_int (fun _ _ => rfl)) (fun _ _ => rfl)) (pa_cons (pe_ix (ixK_list K) (pv 2) (pe_ix (ixK_tup K) (pv 12) pe_int (fun _ _ => rfl)) (fun _ _ => rfl)) (pa_cons (pe_bt call_str_int T.b_str (by decide +kernel) (pa_cons (pv 13) pa_nil)) pa_nil)))))) pa_nil))))) (pss_one (ps_ret (pe_join pe_str (pv 1)))))))), ?_⟩
  rintro _ _ ⟨S, c0, rfl, rfl⟩
  have g := c0
  have hz0 := g.ok.z0
  have hz4 := g.ok.z4
  have hgl := good_len g
  have hn4 := g.ok.n4
  refine sd_ownN (K := K) (x := dS (lineS (zoomW S))) (ns := S.rows.map Row.name) (ed_is (ed_catS (i := "zooms ") ed_c (ed_cb (eda_cons (ed_lz ed_var) eda_nil) (cd_strZ (by omega))) ?_) (by rw [zoom_line])) (imm_V _) ?_ ?_ (by show 1 < 14; decide) (by decide)
  · have := (goodw_num (n := (S.last + 1).toNat) (by omega)).1
    have h2 : ("zooms " : Str).length = 6 := by decide +kernel
    rw [h2]
    omega
  · rw [List.map_map]
    exact ef_lc0 (K := K) S.rows (clsD K) (fun r => dS r.name) (wd_list (ed_lc_ ed_var)) (by omega) (by decide) (fun _ _ => imm_V _) fun r hr => ⟨_, gd_name, ed_ixT ed_var ed_c rfl⟩
  refine s1_seq (s1_for (fun i => (lineD ([zoomW S] ++ (S.rows.take i).map rowWords), [some (dLore K S), none, some (dLst K ((S.rows.map Row.name).map fun s => dS s)), none, none, none, none, none, none, none, none, none, none, none], List.replicate 14 none)) rfl (wdb_lore (s := "classes") rfl lore_c) fun i d hd => ?_) ?_
  · obtain ⟨r, hr, hm, rfl⟩ := forE hd
    have hi := (List.getElem?_eq_some_iff.mp hr).1
    have o := g.ok.rw r hm
    have := o.f0
    have := o.l9
    have := o.l0
    have := o.m0
    have := o.m3
    have := o.sl
    have := o.s1
    have gz := g.gs r hm
    refine ⟨_, _, gdi_tup (gdis_cons (gdi_name (imm_V _)) (gdis_cons (gdi_name (imm_V _)) (gdis_cons (gdi_name (imm_V _)) (gdis_cons (gdi_name (imm_V _)) (gdis_cons (gdi_name (imm_tupI _ _)) gdis_nil))))), s1_wk (s1_is (s1_app (d := dS (lineS (rowWords r))) (ed_joinW (ws := rowWords r) (ed_is (ed_catL (ed_lst (K := K) (eda_cons ed_c (eda_cons (ed_var (i := 4)) (eda_cons (ed_cb (eda_cons (ed_var (i := 5)) eda_nil) (cd_strZ (by omega))) (eda_cons (ed_cb (eda_cons (ed_var (i := 6)) eda_nil) (cd_strZ (by omega))) (eda_cons (ed_cb (eda_cons (ed_var (i := 7)) eda_nil) (cd_strZ (by omega))) eda_nil))))) (by simp)) (ed_lc0 (K := K) r.sizes (fun n => dI n) (fun n => dS (numS n.toNat)) (wd_tup (ed_var (i := 8))) (by have := gz.2.1; omega) (by decide) (fun _ _ => imm_V _) fun n hn => ⟨_, gd_name, ed_cb (eda_cons (ed_var (i := 9)) eda_nil) (cd_strZ (by have := o.sz n hn; omega))⟩) (by have := gz.2.1; simp; omega)) (by unfold rowWords; rw [List.map_append, List.map_map]; rfl)) (row_ws g hm)) (imm_V _) (by simp [lineD]; omega) ⟨by show 1 < 14; decide, by show 1 < 14; decide⟩) (map_next [zoomW S] hr).symm) (wk_c (wk_c (wk_c (wk_c (wk_c (wk_c (wk_c (wk_c (wk_c (wk_c (wk_c (wk_c (wk_c (wk_c wk_0)))))))))))))) (wk_c (wk_c (wk_c (wk_c (wk_n (wk_n (wk_n (wk_n (wk_n (wk_c (wk_c (wk_c (wk_c (wk_c wk_0)))))))))))))) nones_imm⟩
  refine s1_seq (s1_for (fun i => (lineD ((zoomW S :: S.rows.map rowWords) ++ (S.beside.take i).map (besW S)), [some (dLore K S), none, some (dLst K ((S.rows.map Row.name).map fun s => dS s)), none, none, none, none, none, none, none, none, none, none, none], List.replicate 14 none)) (by rw [List.length_map, List.take_length]; simp) (wdb_lore (s := "beside") rfl lore_b) fun i d hd => ?_) ?_
  · obtain ⟨r, hr, hm, rfl⟩ := forE hd
    have hi := (List.getElem?_eq_some_iff.mp hr).1
    obtain ⟨h1, h2, _⟩ := good_b g hm
    refine ⟨_, _, gdi_tup (K' := K) (es := [dI r.1, dI r.2]) (gdis_cons (gdi_name (imm_V _)) (gdis_cons (gdi_name (imm_V _)) gdis_nil)), s1_wk (s1_is (s1_app (d := dS (lineS (besW S r))) (ed_joinW (ws := besW S r) (ed_lst (K := K) (eda_cons ed_c (eda_cons (ed_ixL (K := K) (ed_var (i := 2)) (ed_var (i := 10)) (at_nm h1)) (eda_cons (ed_ixL (K := K) (ed_var (i := 2)) (ed_var (i := 11)) (at_nm h2)) eda_nil))) (by simp [besW])) (bes_ws g hm)) (imm_V _) (by simp [lineD]; omega) ⟨by show 1 < 14; decide, by show 1 < 14; decide⟩) (map_next _ hr).symm) (wk_c (wk_c (wk_c (wk_c (wk_c (wk_c (wk_c (wk_c (wk_c (wk_c (wk_c (wk_c (wk_c (wk_c wk_0)))))))))))))) (wk_c (wk_c (wk_c (wk_c (wk_c (wk_c (wk_c (wk_c (wk_c (wk_c (wk_n (wk_n (wk_c (wk_c wk_0)))))))))))))) nones_imm⟩
  refine s1_seq (s1_for (fun i => (lineD (((zoomW S :: S.rows.map rowWords) ++ S.beside.map (besW S)) ++ (S.far.take i).map (farW S)), [some (dLore K S), none, some (dLst K ((S.rows.map Row.name).map fun s => dS s)), none, none, none, none, none, none, none, none, none, none, none], List.replicate 14 none)) (by rw [List.length_map, List.take_length]; simp) (wdb_lore (s := "far") rfl lore_f) fun i d hd => ?_) ?_
  · obtain ⟨r, hr, hm, rfl⟩ := forE hd
    have hi := (List.getElem?_eq_some_iff.mp hr).1
    obtain ⟨h1, h2, _, h3, h4⟩ := good_f g hm
    refine ⟨_, _, gdi_tup (K' := K) (es := [nTupI (pairI r.1), dI r.2]) (gdis_cons (gdi_name (imm_nTupI _)) (gdis_cons (gdi_name (imm_V _)) gdis_nil)), s1_wk (s1_is (s1_app (d := dS (lineS (farW S r))) (ed_joinW (ws := farW S r) (ed_lst (K := K) (eda_cons ed_c (eda_cons (ed_ixL (K := K) (ed_var (i := 2)) (ed_ixT (ed_w (K := K) (ed_var (i := 12))) ed_c rfl) (at_nm h1)) (eda_cons (ed_ixL (K := K) (ed_var (i := 2)) (ed_ixT (ed_w (K := K) (ed_var (i := 12))) ed_c rfl) (at_nm h2)) (eda_cons (ed_cb (eda_cons (ed_var (i := 13)) eda_nil) (cd_strZ (by omega))) eda_nil)))) (by simp [farW])) (far_ws g hm)) (imm_V _) (by simp [lineD]; omega) ⟨by show 1 < 14; decide, by show 1 < 14; decide⟩) (map_next _ hr).symm) (wk_c (wk_c (wk_c (wk_c (wk_c (wk_c (wk_c (wk_c (wk_c (wk_c (wk_c (wk_c (wk_c (wk_c wk_0)))))))))))))) (wk_c (wk_c (wk_c (wk_c (wk_c (wk_c (wk_c (wk_c (wk_c (wk_c (wk_c (wk_c (wk_n (wk_n wk_0)))))))))))))) nones_imm⟩
  refine s1_ret (ed_joinS (ws := (wordsS S).map lineS) ed_c (ed_is (ed_var (i := 1)) ?_) ?_)
  · show dLst K (lineD (((zoomW S :: S.rows.map rowWords) ++ S.beside.map (besW S)) ++ (S.far.take (S.far.map (farD K)).length).map (farW S))) = _
    rw [List.length_map, List.take_length]
    unfold lineD wordsS
    rw [List.map_map]
    rfl
  · have h1 := sum_le (b := 130) (ws := (wordsS S).map lineS) fun w hw => by
      obtain ⟨ws, hws, rfl⟩ := List.mem_map.mp hw
      exact (line_ok (words_ok g ws hws)).1
    rw [List.length_map] at h1
    have := words_len g
    rw [nl_len, List.length_map]
    omega

end
end Sl
namespace Sl
open PySem PySem.Spec PyProof.Rows L2 StX RZ
open Evl (Ex ex_l ex_t ex_rd sq_of st_of sz_of sz_lt fresh_back)
local macro_rules | `(tactic| walk_at "sd") => `(tactic| first | assumption | omega | decide | (constructor <;> assumption) | (constructor <;> omega))
section
variable {P : Program} {w : World} {K : PySem.W.Frag} {mg : Str → Option Value} {base : Heap}

/-! ### the text is read -/
open TL
def sortN (R B k : Nat) : Str := if k = 0 then "zooms" else if k ≤ R then "class" else if k ≤ R + B then "beside" else "far"
theorem sort_c {R B k : Nat} (h : 1 ≤ k ∧ k ≤ R) : sortN R B k = "class" := by
  unfold sortN
  rw [if_neg (by omega), if_pos h.2]
theorem sort_b {R B k : Nat} (h : R < k ∧ k ≤ R + B) : sortN R B k = "beside" := by
  unfold sortN
  rw [if_neg (by omega), if_neg (by omega), if_pos h.2]
theorem sort_f {R B k : Nat} (h : R + B < k) : sortN R B k = "far" := by
  unfold sortN
  rw [if_neg (by omega), if_neg (by omega), if_neg (by omega)]
def stN (S : Sty) (k : Nat) : RSt := ⟨sortN S.rows.length S.beside.length k, S.last, S.rows.take k, S.beside.take (k - S.rows.length), S.far.take (k - S.rows.length - S.beside.length)⟩
def fS (S : Sty) : Nat → RSt
  | 0 => st0
  | k + 1 => stN S k
theorem rst_ext {a b : RSt} (h1 : a.sort = b.sort) (h2 : a.last = b.last) (h3 : a.rows = b.rows) (h4 : a.bes = b.bes) (h5 : a.far = b.far) : a = b := by
  cases a
  cases b
  simp_all
theorem pw_last {α : Type} {R : α → α → Prop} {l : List α} {j : Nat} {p q : α} (h : l.Pairwise R) (hj : l[j]? = some p) (hq : (l.take j).getLast? = some q) : R q p := by
  have hl := (List.getElem?_eq_some_iff.mp hj).1
  have e : l = l.take j ++ l.drop j := (List.take_append_drop j l).symm
  have hd : l.drop j = p :: l.drop (j + 1) := by
    rw [List.drop_eq_getElem_cons hl]
    congr 1
    exact (List.getElem?_eq_some_iff.mp hj).2
  rw [e, hd] at h
  exact (List.pairwise_append.mp h).2.2 q (List.mem_of_getLast? hq) p List.mem_cons_self
theorem pairsN_lt {m : Nat} (h : m ≤ 4) : (pairsN m).Pairwise fun p q => ltP p q = true := by
  rcases m with _ | _ | _ | _ | _ | m
  · decide +kernel
  · decide +kernel
  · decide +kernel
  · decide +kernel
  · decide +kernel
  · omega
section
variable {S : Sty} {k : Nat}
theorem st_row {r : Row} (h : S.rows[k]? = some r) : ({ stN S k with sort := "class", rows := (stN S k).rows ++ [r] } : RSt) = stN S (k + 1) := by
  have hl := (List.getElem?_eq_some_iff.mp h).1
  refine rst_ext ?_ rfl ?_ ?_ ?_
  · exact (sort_c (R := S.rows.length) (B := S.beside.length) (k := k + 1) (by omega)).symm
  · show S.rows.take k ++ [r] = S.rows.take (k + 1)
    rw [take_next h]
  · show S.beside.take (k - S.rows.length) = S.beside.take (k + 1 - S.rows.length)
    rw [show k - S.rows.length = 0 by omega, show k + 1 - S.rows.length = 0 by omega]
  · show S.far.take (k - S.rows.length - S.beside.length) = S.far.take (k + 1 - S.rows.length - S.beside.length)
    rw [show k - S.rows.length - S.beside.length = 0 by omega, show k + 1 - S.rows.length - S.beside.length = 0 by omega]
theorem st_bes {j : Nat} {p : Int × Int} (hk : k = S.rows.length + j) (h : S.beside[j]? = some p) : ({ stN S k with sort := "beside", bes := (stN S k).bes ++ [p] } : RSt) = stN S (k + 1) := by
  have hl := (List.getElem?_eq_some_iff.mp h).1
  subst hk
  refine rst_ext ?_ rfl ?_ ?_ ?_
  · exact (sort_b (R := S.rows.length) (B := S.beside.length) (k := S.rows.length + j + 1) (by omega)).symm
  · show S.rows.take (S.rows.length + j) = S.rows.take (S.rows.length + j + 1)
    rw [List.take_of_length_le (by omega), List.take_of_length_le (by omega)]
  · show S.beside.take (S.rows.length + j - S.rows.length) ++ [p] = S.beside.take (S.rows.length + j + 1 - S.rows.length)
    rw [show S.rows.length + j - S.rows.length = j by omega, show S.rows.length + j + 1 - S.rows.length = j + 1 by omega, take_next h]
  · show S.far.take (S.rows.length + j - S.rows.length - S.beside.length) = S.far.take (S.rows.length + j + 1 - S.rows.length - S.beside.length)
    rw [show S.rows.length + j - S.rows.length - S.beside.length = 0 by omega, show S.rows.length + j + 1 - S.rows.length - S.beside.length = 0 by omega]
theorem st_far {j : Nat} {p : (Int × Int) × Int} (hk : k = S.rows.length + S.beside.length + j) (hr : 1 ≤ S.rows.length) (h : S.far[j]? = some p) : ({ stN S k with sort := "far", far := (stN S k).far ++ [p] } : RSt) = stN S (k + 1) := by
  have hl := (List.getElem?_eq_some_iff.mp h).1
  subst hk
  refine rst_ext ?_ rfl ?_ ?_ ?_
  · exact (sort_f (R := S.rows.length) (B := S.beside.length) (k := S.rows.length + S.beside.length + j + 1) (by omega)).symm
  · show S.rows.take (S.rows.length + S.beside.length + j) = S.rows.take (S.rows.length + S.beside.length + j + 1)
    rw [List.take_of_length_le (by omega), List.take_of_length_le (by omega)]
  · show S.beside.take (S.rows.length + S.beside.length + j - S.rows.length) = S.beside.take (S.rows.length + S.beside.length + j + 1 - S.rows.length)
    rw [List.take_of_length_le (by omega), List.take_of_length_le (by omega)]
  · show S.far.take (S.rows.length + S.beside.length + j - S.rows.length - S.beside.length) ++ [p] = S.far.take (S.rows.length + S.beside.length + j + 1 - S.rows.length - S.beside.length)
    rw [show S.rows.length + S.beside.length + j - S.rows.length - S.beside.length = j by omega, show S.rows.length + S.beside.length + j + 1 - S.rows.length - S.beside.length = j + 1 by omega, take_next h]
theorem nm_at {i : Nat} (h : S.In (i : Int)) : (S.rows.map Row.name)[i]? = some (S.row (i : Int)).name := by
  rw [List.getElem?_map]
  have := h.get
  rw [show ((i : Int)).toNat = i by omega] at this
  rw [this]
  rfl
theorem step_S (g : GoodS S) : ∀ (i : Nat) ws, (wordsS S)[i]? = some ws → Step (fS S i) ws (fS S (i + 1)) := fun i ws h => by
  have hn1 := g.ok.n1
  have hn4 := g.ok.n4
  have hz0 := g.ok.z0
  have hz4 := g.ok.z4
  have hgl := good_len g
  unfold wordsS at h
  cases i with
  | zero =>
    have e : ws = zoomW S := by simpa using h.symm
    subst e
    have := Step.zooms (st := st0) (n := (S.last + 1).toNat) rfl (by omega)
    have e2 : ({ st0 with sort := "zooms", last := (((S.last + 1).toNat : Nat) : Int) - 1 } : RSt) = stN S 0 := by
      refine rst_ext rfl ?_ rfl ?_ ?_
      · show (((S.last + 1).toNat : Nat) : Int) - 1 = S.last
        omega
      · show [] = S.beside.take (0 - S.rows.length)
        rw [show 0 - S.rows.length = 0 by omega]
        rfl
      · show [] = S.far.take (0 - S.rows.length - S.beside.length)
        rw [show 0 - S.rows.length - S.beside.length = 0 by omega]
        rfl
    rw [e2] at this
    exact this
  | succ k =>
    have h' : ((S.rows.map rowWords ++ S.beside.map (besW S)) ++ S.far.map (farW S))[k]? = some ws := by
      rw [List.cons_append, List.cons_append, List.getElem?_cons_succ] at h
      exact h
    clear h
    show Step (stN S k) ws (stN S (k + 1))
    by_cases c1 : k < S.rows.length
    · rw [List.getElem?_append_left (by simp; omega), List.getElem?_append_left (by simp; omega), List.getElem?_map] at h'
      have hr : S.rows[k]? = some S.rows[k] := List.getElem?_eq_getElem c1
      rw [hr] at h'
      cases h'
      have hm : S.rows[k] ∈ S.rows := List.getElem_mem c1
      rw [← st_row hr]
      refine Step.cls ?_ ⟨g.ok.rw _ hm, hz4⟩ (g.gs _ hm) ⟨?_, ?_⟩
      · by_cases h0 : k = 0
        · subst h0
          exact .inl rfl
        · exact .inr (sort_c (by omega))
      · show (S.rows.take k).length < 4
        rw [List.length_take]
        omega
      · intro hmem
        have hmem' : S.rows[k].name ∈ (S.rows.take k).map Row.name := hmem
        have nd := g.ok.nd
        have e : S.rows = S.rows.take k ++ S.rows.drop k := (List.take_append_drop k S.rows).symm
        rw [e, List.map_append, List.nodup_append] at nd
        have hd : S.rows[k] ∈ S.rows.drop k := by
          rw [List.drop_eq_getElem_cons c1]
          exact List.mem_cons_self
        exact nd.2.2 _ hmem' _ (List.mem_map_of_mem hd) rfl
    · by_cases c2 : k < S.rows.length + S.beside.length
      · obtain ⟨j, rfl⟩ : ∃ j, k = S.rows.length + j := ⟨k - S.rows.length, by omega⟩
        have hj : j < S.beside.length := by omega
        rw [List.getElem?_append_left (by simp; omega), List.getElem?_append_right (by simp), List.getElem?_map, List.length_map, show S.rows.length + j - S.rows.length = j by omega] at h'
        have hr : S.beside[j]? = some S.beside[j] := List.getElem?_eq_getElem hj
        rw [hr] at h'
        cases h'
        have hm : S.beside[j] ∈ S.beside := List.getElem_mem hj
        rw [← st_bes rfl hr]
        obtain ⟨b1, b2, b3⟩ := good_b g hm
        generalize S.beside[j] = p at hr hm b1 b2 b3
        obtain ⟨p1, p2⟩ := p
        have b10 : 0 ≤ p1 := b1.1
        have b20 : 0 ≤ p2 := b2.1
        obtain ⟨x, rfl⟩ : ∃ x : Nat, p1 = (x : Int) := ⟨p1.toNat, by omega⟩
        obtain ⟨y, rfl⟩ : ∃ y : Nat, p2 = (y : Int) := ⟨p2.toNat, by omega⟩
        have er : (stN S (S.rows.length + j)).rows = S.rows := List.take_of_length_le (by omega)
        have eb : (stN S (S.rows.length + j)).bes = S.beside.take j := by
          show S.beside.take (S.rows.length + j - S.rows.length) = _
          rw [show S.rows.length + j - S.rows.length = j by omega]
        refine Step.bes (i := x) (j := y) ?_ (by rw [er]; exact ⟨g.ok.nd, hn4⟩) (by rw [er]; exact ⟨nm_at b1, nm_at b2⟩) (by have : (x : Int) ≤ y := b3; omega) (by
          rw [eb]
          refine ⟨by rw [List.length_take]; omega, fun q hq => ?_⟩
          exact pw_last (R := fun p q => ltP p q = true) ((pairsN_lt hn4).sublist g.bs) hr hq)
        by_cases h0 : j = 0
        · exact .inl (sort_c (by omega))
        · exact .inr (sort_b (by omega))
      · obtain ⟨j, rfl⟩ : ∃ j, k = S.rows.length + S.beside.length + j := ⟨k - S.rows.length - S.beside.length, by omega⟩
        rw [List.getElem?_append_right (by simp), List.getElem?_map, List.length_append, List.length_map, List.length_map, show S.rows.length + S.beside.length + j - (S.rows.length + S.beside.length) = j by omega] at h'
        cases hr : S.far[j]? with
        | none =>
          rw [hr] at h'
          cases h'
        | some f =>
        rw [hr] at h'
        cases h'
        have hj := (List.getElem?_eq_some_iff.mp hr).1
        have hm : f ∈ S.far := List.mem_of_getElem? hr
        rw [← st_far rfl hn1 hr]
        obtain ⟨b1, b2, b3, b4, b5⟩ := good_f g hm
        obtain ⟨⟨p1, p2⟩, p3⟩ := f
        have b10 : 0 ≤ p1 := b1.1
        have b20 : 0 ≤ p2 := b2.1
        obtain ⟨x, rfl⟩ : ∃ x : Nat, p1 = (x : Int) := ⟨p1.toNat, by omega⟩
        obtain ⟨y, rfl⟩ : ∃ y : Nat, p2 = (y : Int) := ⟨p2.toNat, by omega⟩
        have b4' : 1 ≤ p3 := b4
        have b5' : p3 ≤ 9999 := b5
        obtain ⟨w, rfl⟩ : ∃ w : Nat, p3 = (w : Int) := ⟨p3.toNat, by omega⟩
        have er : (stN S (S.rows.length + S.beside.length + j)).rows = S.rows := List.take_of_length_le (by omega)
        have eb : (stN S (S.rows.length + S.beside.length + j)).far = S.far.take j := by
          show S.far.take (S.rows.length + S.beside.length + j - S.rows.length - S.beside.length) = _
          rw [show S.rows.length + S.beside.length + j - S.rows.length - S.beside.length = j by omega]
        refine Step.far (i := x) (j := y) (n := w) ?_ (by rw [er]; exact ⟨g.ok.nd, hn4⟩) (by rw [er]; exact ⟨nm_at b1, nm_at b2⟩) (by have : (x : Int) ≤ y := b3; omega) (by
          rw [eb]
          refine ⟨by rw [List.length_take]; omega, fun q hq => ?_⟩
          have hpw := List.pairwise_map.mp ((pairsN_lt hn4).sublist g.fs)
          exact pw_last (R := fun a b => ltP a.1 b.1 = true) hpw hr hq) (by omega)
        by_cases h0 : j = 0
        · by_cases h1 : S.beside.length = 0
          · exact .inl (sort_c (by omega))
          · exact .inr (.inl (sort_b (by omega)))
        · exact .inr (.inr (sort_f (by omega)))
theorem fS_end (g : GoodS S) : ∃ s, fS S (wordsS S).length = ⟨s, S.last, S.rows, S.beside, S.far⟩ := by
  have e : (wordsS S).length = (S.rows.length + S.beside.length + S.far.length) + 1 := by
    simp [wordsS]
    omega
  rw [e]
  refine ⟨_, rst_ext rfl rfl ?_ ?_ ?_⟩
  · exact List.take_of_length_le (by omega)
  · exact List.take_of_length_le (by omega)
  · exact List.take_of_length_le (by omega)
theorem reads_S (g : GoodS S) : Reads0 (textS S) (wordsS S) (fS S) := {
  h0 := rfl
  step := fun i ws h => by
    have hw := words_ok g ws (List.mem_of_getElem? h)
    have hl := line_ok hw
    exact ⟨step_S g i ws h, fun w hw' => (hw.2 w hw').2.1, Nat.le_trans hl.1 (by decide), hl.2⟩
  rows := by
    obtain ⟨s, e⟩ := fS_end g
    rw [e]
    have := g.ok.n1
    exact fun z => by rw [show S.rows = [] from z] at this; simp at this
  some_ := by simp [wordsS]
  text_ := rfl
  len := by
    have h1 := join_len (y := ("\n" : Str)) (b := 130) (ws := (wordsS S).map lineS) fun w hw => by
      obtain ⟨ws, hws, rfl⟩ := List.mem_map.mp hw
      exact (line_ok (words_ok g ws hws)).1
    rw [List.length_map, nl_len] at h1
    have := words_len g
    show (Txt.join _ _).length ≤ 20000
    omega }
theorem sty_S (g : GoodS S) : styOf (textS S) (fS S (wordsS S).length) = ⟨textS S, S.last, S.rows, S.beside, S.far⟩ := by
  obtain ⟨s, e⟩ := fS_end g
  rw [e]
  rfl
end

end
end Sl
/-! SlEx: TooMany(n) made (LabelError.__init__ with super()), raised, caught, kept as a value. -/
namespace Sl
open PySem PySem.Spec PyProof.Rows L2 StX RZ
open Evl (Ex ex_l ex_t ex_rd sq_of st_of sz_of sz_lt fresh_back)
/-- what the written part says of LabelError.__init__ (f), D the class LabelError, C below it -/
structure SupF (P : Program) (K : PySem.W.Frag) (C D f : Addr) : Prop where
  fn : ∃ (oc : Value) (od : Option Addr) (osl : Array (Option Value)) (doc pm : Value) (an : Option Addr) (ct : Value) (cda cc : Addr),
    K.lookup f = some ⟨oc, od, .func (PySem.W.ksFn "__init__" "LabelError.__init__" (defArgs s_LE) (defBody s_LE) (defScope s_LE) .none .none doc pm an (.ref cda) ct cc), osl⟩ ∧ PySem.W.codeIn K (.ref cda) "LabelError.__init__" = true ∧
    (∃ (oc : Value) (od : Option Addr) (osl : Array (Option Value)) (vs : Array Value) (file : Str) (tf : Tok), K.lookup cda = some ⟨oc, od, .fields vs, osl⟩ ∧ vs[2]? = some (.str file tf) ∧ ((P.main.file : Str) == file) = true) ∧
    ∃ (oc : Value) (od : Option Addr) (osl : Array (Option Value)), K.lookup cc = some ⟨oc, od, .cell (some (.ref D)), osl⟩
  cD : ∃ cd, PySem.W.clsIn K D = some cd
  sub : PySem.W.mroIn K C (.ref D) = some true
  subV : PySem.W.subIn K (.ref C) (.type "ValueError") = some true
  op : PySem.W.nsIn K cStatics "thirdparty.any" = some none
  sup : PySem.W.ks_superIn K C D "__init__" = some (some (.builtin "ValueError.__init__"))
  top : (P.main.scope.names.lookup ("super" : Str)).isSome = false
section
variable {M : Model} {prog : Program} {w : World} {A : Around} {E : Value → Shared → Prop} {h : Heap} {g : Array GenState} {d : Drawn} {t : Nat} {os : OsState}
variable {nm q : Str} {C N : Addr} {bs bm bmB : List Value} {hdct : Bool} {sn : List Str} {sub : List Value} {ab : Bool} {col : Option Bool} {dd : Option Addr} {k0 k1 k2 k3 k5 : Option Value}
/-- the bound ValueError.__init__ called -/
theorem mw_call {u e t0 : Addr} {rest : List Value} {Q : Value → Shared → Prop} (hC : h.get? C = some (excClassObj nm q C N bs bm hdct sn sub ab col dd k0 k1 k2 k3 k5 "ValueError.__new__")) (he : h.get? e = some (PySem.HandSPX.excO C t0))
    (hu : h.get? u = some (PySem.W.kxs_mw "ValueError.__init__" e)) (hz : rest.length ≤ sizeLine) (hq : ∀ h' t1, (∀ b o, b ≠ e → h.get? b = some o → h'.get? b = some o) → h'.get? e = some (PySem.HandSPX.excO C t1) → Q .none ⟨h', g, d, t, os⟩) :
    wpAny (model prog w) A (call (.ref u) rest) Q E ⟨h, g, d, t, os⟩ := by
  refine wpAny_call (codeAny_of_tree (show wpAny _ A.in1 (callAny (.ref u) ⟨rest, []⟩) _ _ _ from ?_))
  unfold callAny
  refine wpAny_bind (wpAny_load hu ?_)
  simp only [PySem.W.kxs_mw, show (Value.type "method-wrapper" == Value.type "method" || Value.type "method-wrapper" == Value.type "builtin_function_or_method" || Value.type "method-wrapper" == Value.type "method-wrapper") = true by decide, if_true]
  refine PySem.W.KFB.if_so (by decide) (wpAny_bind (PySem.W.check_bound_init PySem.F.excBase_ValueError.toExcCallFacts hC he rfl (wpAny_bind (wpAny_pure (wpAny_pure ⟨plainId_quiet PySem.F.excBase_ValueError.init.plain _, codeAny_builtin PySem.F.excBase_ValueError.initEntry ?_⟩)))))
  exact PySem.W.exc_init_tree (cls := .ref C) (t0 := t0) (dv := none) (c2 := .none) (c3 := .none) (b4 := .bool false) he hz fun h' k e' _ => hq h' _ k e'
end
section
variable {P : Program} {w : World} {A : Around} {R : Result → Shared → Prop} {K : PySem.W.Frag} {mg : Str → Option Value} {C D f e t0 : Addr} {u : Value}
theorem le_init {s : Shared} (S : SupF P K C D f) (T : OexC K C) (nv : PySem.W.findIn K (.ref C) "value" = some none) (X : K.In s.heap) (hG : s.heap.Ns mainGlobals mg) (hms : mg "super" = none)
    (hB : ∃ mb, s.heap.Ns builtinsNs mb ∧ ∀ x : Str, x ≠ "__name__" → mb x = bootBuiltins x) (lim : s.heap.NoLimit) (room : A.depth < recursionLimit) (ke : K.lookup e = none) (he : s.heap.get? e = some (PySem.HandSPX.excO C t0))
    (hq : ∀ h' tk' dx t1, (∀ b o, b ≠ e → s.heap.get? b = some o → h'.get? b = some o) → s.heap.objs.size ≤ dx → dx ≠ e → h'.get? e = some ({ cls := .ref C, dict := some dx, data := .fields #[.ref t1, .none, .none, .none, .bool false, .none] } : Obj) →
      h'.Ns1 dx (fun y => if y = "value" then some u else none) → R (.ok (.ret .none)) { s with heap := h', toks := tk' }) : codeAny (model P w) A (.call (.ref f) ⟨[.ref e, u], []⟩) R s := by
  obtain ⟨oc, od, osl, doc, pm, an, ct, cda, cc, lk, hcd, ⟨c1, c2, c3, vs, file, tf, lkc, hvs, hfile⟩, b1, b2, b3, lkx⟩ := S.fn
  obtain ⟨cdD, hD⟩ := S.cD
  obtain ⟨nm, q, N, bs, bm, sn, sub, ab, col, dd, k0, k1, k2, k3, k5, hC, hbm⟩ := T.cls
  have hcl : PySem.W.clsIn K C = some { name := nm, bases := bs, mro := .ref C :: bm, ns := N, qualname := q, hasDict := true, slotNames := sn, subclasses := sub, abstract := ab, collection := col, hasDel := false } := by unfold PySem.W.clsIn; rw [hC] <;> rfl
  obtain ⟨mb, hb1, hb2⟩ := hB
  refine ks_codeAny_call_defAt (binds := [("self", .ref e), ("value", u)]) room (X _ _ lk) rfl lim (PySem.W.codeRec_of X hcd) rfl (BindsTo.of_eq (by rfl)) (show ∀ x ∈ (defScope s_LE).names, x.2 ≠ .cell by decide) (fun x hx => ?_) (fun h₀ hns kp => ?_) rfl rfl rfl
  · rcases List.mem_cons.mp hx with rfl | hx
    · rfl
    · rcases List.mem_cons.mp hx with rfl | hx
      · rfl
      · cases hx
  · have X0 : K.In h₀ := X.keeps kp
    have hC0 := X0 _ _ hC
    obtain ⟨oD, hD1, hD2⟩ : ∃ oD, h₀.get? D = some oD ∧ oD.data = .cls cdD := by
      unfold PySem.W.clsIn at hD
      split at hD
      · rename_i c d cd' sl ho
        cases hD
        exact ⟨_, X0 _ _ ho, rfl⟩
      · cases hD
    have he0 := kp _ _ he
    have neC : e ≠ C := fun z => by
      rw [z] at he0
      rw [hC0] at he0
      cases he0
    refine ks_wpAt_execs_cons (ks_wpAt_Expr_any (ks_wpAt_MethodCall (ks_wpAt_super_base (f := f) (cc := cda) rfl rfl rfl rfl (X0 _ _ lk) rfl rfl rfl (X0 _ _ lkc) rfl hvs hfile S.top ?_)))
    refine PySem.W.ks_loadName_global rfl rfl (Calls.loadGlobal_builtin (hG.keeps kp) hms (hb1.keeps kp) (hb2 "super" (by decide)) ⟨by rfl, ?_⟩)
    refine wpAny_loadName_free (c := cc) (v := .ref D) rfl rfl rfl ⟨_, X0 _ _ lkx, rfl⟩ ?_
    refine wpAny_loadName_local (v := .ref e) rfl rfl hns rfl ?_
    refine ks_wpAny_isType_cls hD1 hD2 ⟨rfl, ?_⟩
    refine ks_wpAny_call_super hD1 hD2 he0 rfl (fun c z => nomatch z) (PySem.W.looks_mroIn X0 S.sub) (fun h1 e1 k1 => ?_)
    have X1 : K.In h1 := X0.keeps k1
    have hI : PySem.W.Looks (model P w) h1 (isInstance (.ref e) (.type "ValueError")) true := PySem.W.Looks.andThen (a := .ref C) (fun A Q E s k q => wpAny_typeOf_ref (k _ _ (k1 _ _ he0)) q) (PySem.W.looks_subIn X1 S.subV)
    refine PySem.W.kxs_getMethod PySem.W.kxs_ValueError e1 (PySem.W.looks_opaque X1 S.op) (l₀ := .ref C :: bm) ?_ rfl X1 ?_ hI neC (by decide) ?_
    · exact fun A Q E s k q => wpAny_bind ((PySem.W.looks_clsIn X1 hcl) A _ E s k (wpAny_pure q))
    · have := S.sup
      unfold PySem.W.ks_superIn at this
      rw [hcl] at this
      exact this
    refine PySem.W.kxs_callWith (i := "ValueError.__init__") (x := e) rfl (Calls.evalArgs_plain (Calls.spliced_cons ?_))
    have k2 : ∀ b o, h₀.get? b = some o → (h1.push (PySem.W.kxs_mw "ValueError.__init__" e)).get? b = some o := fun b o z => Heap.get?_push_of_some _ (k1 b o z)
    have nsk : ∀ {h' : Heap}, (∀ b o, b ≠ e → h₀.get? b = some o → h'.get? b = some o) → h'.Ns s.heap.objs.size fun y => ([("self", .ref e), ("value", u)] : List (Str × Value)).reverse.lookup y := fun {h'} k => by
      obtain ⟨o, es, ep, ho, r⟩ := hns
      exact ⟨o, es, ep, k _ o (fun z => Nat.ne_of_lt (Heap.lt_size he) z.symm) ho, r⟩
    refine wpAny_Name (wpAny_loadName_local (v := u) rfl rfl (nsk fun b o _ z => k2 b o z) rfl ?_) (by decide)
    refine Calls.spliced_nil ⟨Heap.get?_push_size _ rfl, ?_⟩
    refine mw_call (k2 _ _ hC0) (k2 _ _ he0) (Heap.get?_push_size _ rfl) (by show 1 ≤ sizeLine; rw [sizeLine_eq]; omega) fun h2 t1 k3 e2 => ?_
    have k4 : ∀ b o, b ≠ e → h₀.get? b = some o → h2.get? b = some o := fun b o n z => k3 b o n (k2 b o z)
    refine ks_wpAt_execs_cons (ks_wpAt_Assign_Attr (wpAt_of_wpAny ?_))
    refine wpAny_Name (wpAny_loadName_local (v := u) rfl rfl (nsk k4) rfl ?_) (by decide)
    refine wpAny_Name (wpAny_loadName_local (v := .ref e) rfl rfl (nsk k4) rfl ?_) (by decide)
    have X2 : K.In h2 := fun b o z => k4 b o (fun y => by rw [y, ke] at z; cases z) (X0 b o z)
    refine PySem.W.set_plain X2 (ox := PySem.HandSPX.excO C t1) (od := none) ⟨e2, rfl, rfl, trivial⟩ T.sa ?_
    refine PySem.HandSPX.exc_osa X2 e2 hcl (show PySem.HandSPX.refsVE (.ref C :: bm) = true from hbm) rfl nv (fun h' tk' dx k dn dne hx hn => ?_)
    have sz : s.heap.objs.size ≤ h2.objs.size := by
      obtain ⟨o, es, ep, ho, r⟩ := nsk k4
      exact Nat.le_of_lt (Heap.lt_size ho)
    exact wpAt_of_wpAny (wpAny_execs_nil (hq h' _ dx t1 (fun b o n z => k b o n (k4 b o n (kp b o z))) (Nat.le_trans sz dn) dne hx hn))
end
/-! ### TooMany(n) -/
/-- what the written part says of such a class -/
structure TmC (P : Program) (K : PySem.W.Frag) (C D fI : Addr) : Prop where
  oex : OexC K C
  sup : SupF P K C D fI
  nv : PySem.W.findIn K (.ref C) "value" = some none
  ini : PySem.W.findIn K (.ref C) "__init__" = some (some (.ref fI))
  tyI : PySem.W.typeIn K (.ref fI) = some (.type "function")
def tTm (C : Addr) (ta : TA) : L2.St → Hp → XK → Prop := fun σ H Q => ta σ H fun vs H1 => ∃ v, vs = [v] ∧ ∀ d, H1 d = none → Q (.ref C) (some d) (upd H1 d (.xd [("value", v)]))
theorem pmk_tm {X : Cx} {x : Str} {e : Expr} {es : List Expr} {ta : TA} {p pos : Pos} {C D fI : Addr} {k : Nat} (T : TmC X.prog X.K C D fI) (hms : X.mg "super" = none) (hr : Room (k + 1) X.A) (hg : Gl X x) (hm : X.mg x = some (.ref C)) (ha : PA X (e :: es) ta)
    (hdb : (x == ("__debug__" : Str)) = false := by decide) (he : starEach (e :: es) X.env = (false, eval e X.env) :: starEach es X.env := by rfl) (hpl : (backTo pos (starEach es X.env)).any (·.1) = false := by rfl) :
    PMk X (.Call (.Name x p) (e :: es) [] pos) (tTm C ta) := by
  intro pins s σ H Q I h
  obtain ⟨nm, q, N, bs, bm, sn, sub, ab, col, dd, k0, k1, k2, k3, k5, hC, hbm⟩ := T.oex.cls
  refine wpAny_Call_Name_kw (ld_glob I hg hm ?_ hdb)
  refine PySem.W.callWith_K (h₀ := X.base) I.ok.mod.kin T.oex.kC (thn (ha.run pos pins s σ H _ I h) fun us s1 ⟨vs, H1, I1, r1, v, ev, q1⟩ => ⟨I1.kIn, ?_⟩) he hpl
  subst ev
  obtain ⟨u, rfl⟩ : ∃ u, us = [u] := by
    cases r1 with
    | cons ru rn =>
      cases rn
      exact ⟨_, rfl⟩
  have ru : RelV v u := by
    cases r1 with
    | cons ru rn => exact ru
  show wpAny _ _ (call (.ref C) [u]) _ _ _
  have hbk := I1.bk
  obtain ⟨hp, g, dr, tk, os⟩ := s1
  have hsz : hp.objs.size ≤ hp.objs.size + 1 := Nat.le_succ _
  have hn : H1 (hp.objs.size + 1) = none := I1.hok.fresh hsz
  have kk : ∀ b o, hp.get? b = some o → ((hp.push (PySem.W.kdv_tup [u])).push (PySem.HandSPX.excO C hp.objs.size)).get? b = some o := fun b o e => Heap.get?_push_of_some _ (Heap.get?_push_of_some _ e)
  have hget : ((hp.push (PySem.W.kdv_tup [u])).push (PySem.HandSPX.excO C hp.objs.size)).get? (hp.objs.size + 1) = some (PySem.HandSPX.excO C hp.objs.size) := by heap_get
  have I2 : Inv X pins σ (upd H1 (hp.objs.size + 1) (exo (hp.objs.size + 1) C none)) ⟨(hp.push (PySem.W.kdv_tup [u])).push (PySem.HandSPX.excO C hp.objs.size), g, dr, tk, os⟩ :=
    I1.laid (t' := tk) (a := hp.objs.size + 1) (o := exo (hp.objs.size + 1) C none) (h' := (hp.push (PySem.W.kdv_tup [u])).push (PySem.HandSPX.excO C hp.objs.size)) kk hsz (exo_ok hget)
  have noK : X.K.lookup (hp.objs.size + 1) = none := by
    cases z : X.K.lookup (hp.objs.size + 1) with
    | none => rfl
    | some o => exact absurd (Heap.lt_size (I1.kIn _ _ z)) (Nat.not_lt.mpr hsz)
  refine wpAny_call (PySem.HandSPX.call_own PySem.F.excBase_ValueError (fun Y => PySem.HandSPX.refsVE_contains Y bm hbm) (I1.kIn _ _ hC) (PySem.W.looks_findIn I1.kIn T.ini) (fun self => PySem.W.bind_fn I1.kIn self T.tyI) (by show 1 ≤ sizeLine; rw [sizeLine_eq]; omega)
    (le_init T.sup T.oex T.nv I2.kIn (I2.mod.glob.keeps I2.bk) hms ?_ I2.nolimit (hr.make C [u] []).depth noK hget fun h' tk' dx t1 kp dn dne hx hns => ?_))
  · obtain ⟨mb, b1, b2⟩ := I2.mod.blt
    exact ⟨mb, b1.keeps I2.bk, b2⟩
  · generalize ha : hp.objs.size + 1 = a at *
    have hd2 : (upd H1 a (exo a C none)) dx = none := I2.hok.fresh dn
    have hd1 : H1 dx = none := by rw [← hd2, upd_ne dne]
    have eH : upd (del (upd (upd (upd H1 a (exo a C none)) dx (exd dx [("value", v)])) a (exo a C (some dx))) a) dx (.xd [("value", v)]) = upd H1 dx (.xd [("value", v)]) := by
      funext b
      by_cases hb : b = dx
      · rw [hb, upd_same, upd_same]
      · rw [upd_ne hb, upd_ne hb]
        by_cases hb2 : b = a
        · rw [hb2, del_same, hn]
        · rw [del_ne hb2, upd_ne hb2, upd_ne hb, upd_ne hb2]
    have nA : ∀ {b : Addr}, upd H1 a (exo a C none) b = none → b ≠ a := fun {b} n z => by
      rw [z, upd_same] at n
      cases n
    have nD : ∀ {b : Addr} {o : Obj}, ((hp.push (PySem.W.kdv_tup [u])).push (PySem.HandSPX.excO C hp.objs.size)).get? b = some o → b ≠ dx := fun {b o} z => Nat.ne_of_lt (Nat.lt_of_lt_of_le (Heap.lt_size z) dn)
    have at2 : ∀ {b : Addr}, b ≠ a → b ≠ dx → upd (upd (upd H1 a (exo a C none)) dx (exd dx [("value", v)])) a (exo a C (some dx)) b = H1 b := fun {b} n1 n2 => by rw [upd_ne n1, upd_ne n2, upd_ne n1]
    have hokB := I2.hok
    have tr : ∀ {b : Addr} {o : HO}, upd H1 a (exo a C none) b = some o → b ≠ dx := fun {b o} z => ne_of_none z hd2
    refine ⟨rfl, mk_end (raises_own T.oex.exC T.oex.tyC) I1 hsz kk (H2 := upd (upd (upd H1 a (exo a C none)) dx (exd dx [("value", v)])) a (exo a C (some dx))) ?_ ?_ rfl I1.bare upd_same (by rw [upd_ne dne, upd_same]) hd1 (by rw [eH]; exact q1 dx hd1)⟩
    · exact {
        keep := fun b o z n _ _ => kp b o (nA n) z
        slot := fun b o z n _ _ => ⟨o.slots, kp b o (nA n) z⟩
        free := fun b o z n _ => by rw [at2 (nA n) (nD z)]; rw [upd_ne (nA n)] at n; exact n
        there := fun b o z _ => by
          by_cases hb : b = a
          · exact ⟨_, by rw [hb]; exact hx⟩
          · exact ⟨o, kp b o hb z⟩
        tups := fun b xs z => by rw [at2 (at_ne upd_same z exo_tup) (tr z)]; rw [upd_ne (at_ne upd_same z exo_tup)] at z; exact z
        frzs := fun b o w z => by rw [at2 (at_ne upd_same z exo_frz) (tr z)]; rw [upd_ne (at_ne upd_same z exo_frz)] at z; exact z
        tbls := fun b ps z => ⟨#[], by rw [at2 (at_ne upd_same z exo_tbl) (tr z)]; rw [upd_ne (at_ne upd_same z exo_tbl)] at z; rw [z]; simp⟩ }
    · intro b o z
      by_cases hb : b = a
      · subst hb
        rw [upd_same] at z
        cases z
        exact exo_ok hx
      · rw [upd_ne hb] at z
        by_cases hd : b = dx
        · subst hd
          rw [upd_same] at z
          cases z
          exact exd_ok hns (relO_put (fs := []) ru fun g => True.intro)
        · rw [upd_ne hd] at z
          refine (hokB b o z).stay (fun c w hc y => kp c w ?_ y) (fun c hc => ?_) fun c xs hc => ?_
          · rcases hc with hc | hc
            · rw [hc]
              exact hb
            · exact at_ne upd_same hc exo_own
          · rw [at2 (at_ne upd_same hc exo_own) (tr hc)]
            rw [upd_ne (at_ne upd_same hc exo_own)] at hc
            exact hc
          · rw [at2 (at_ne upd_same hc exo_tup) (tr hc)]
            rw [upd_ne (at_ne upd_same hc exo_tup)] at hc
            exact hc
/-- .. with the module's names -/
structure TmX (P : Program) (K : PySem.W.Frag) (mg : Str → Option Value) : Prop where
  c : TmC P K (He.ga K "TooMany") (He.ga K "LabelError") (He.ma K (He.ga K "LabelError") "__init__")
  s : mg "super" = none
/-! ### what raises -/
def XkE (cls : Value) (fs : List (Str × V)) (H : Hp) (E : XK) : Prop := ∀ d H', Ex H H' → H' d = some (.xd fs) → E cls (some d) H'
theorem XkE.mono {cls : Value} {fs : List (Str × V)} {H H1 : Hp} {E : XK} (h : XkE cls fs H E) (e : Ex H H1) : XkE cls fs H1 E := fun d H' e' => h d H' (e.trans e')
def spX (cls : Value) (fs : List (Str × V)) (R : List Dt → Prop) : Sp := fun vs H _ E => ∃ ds, R ds ∧ All2 H ds vs ∧ XkE cls fs H E
structure Fn1 (P : Program) (w : World) (K : PySem.W.Frag) (mg : Str → Option Value) (base : Heap) (k : Nat) (x : Str) (ps : List Str) (sp : Sp) : Prop where
  ex : ∃ f fd, mg x = some (.ref f) ∧ PySem.W.keepIn K (.ref f) = true ∧ FnOk P w K mg base (L2.CX P w) k f fd ps sp ∧ Binds K fd ps []
theorem mk_fn1 {P : Program} {w : World} {K : PySem.W.Frag} {mg : Str → Option Value} {base : Heap} {k : Nat} {x : Str} {ps : List Str} {sp : Sp} {f : Addr} {fd : FuncData} (a : mg x = some (.ref f)) (b : PySem.W.keepIn K (.ref f) = true) (c : FnOk P w K mg base (L2.CX P w) k f fd ps sp) (d : Binds K fd ps []) :
    Fn1 P w K mg base k x ps sp := ⟨⟨f, fd, a, b, c, d⟩⟩
/-- a statement that raises; an expression -/
def Sx (cls : Value) (fs : List (Str × V)) (E : XK) (t : TS) (ρ : Rho) : Prop := ∀ H σ D, EnvOk H ρ σ → XkE cls fs H E → t D σ H
def Exx (cls : Value) (fs : List (Str × V)) (E : XK) (t : TE) (ρ : Rho) : Prop := ∀ H σ Q, EnvOk H ρ σ → XkE cls fs H E → t σ H Q
def tRs (E : XK) (t : L2.St → Hp → XK → Prop) : TS := fun _ σ H => t σ H fun cls d H' => E cls d H'
section
variable {X : Cx} {x : Str} {p pos : Pos} {e : Expr} {es : List Expr} {t : TA} {sp : Sp} {k : Nat} {ps : List Str} {P : Program} {w : World} {K : PySem.W.Frag} {mg : Str → Option Value} {base : Heap} {A : Around} {E : XK}
theorem pe_callX (F : Fn1 P w K mg base k x ps sp) (hr : Room k A) (ha : PA X (e :: es) t) (hp : Passes (L2.CX P w) X E) (hX : At X P w K mg base A := by exact ⟨rfl, rfl, rfl, rfl, rfl, rfl⟩) (hg : Gl X x := by rfl) (hd : (x == ("__debug__" : Str)) = false := by decide)
    (he : starEach (e :: es) X.env = (false, eval e X.env) :: starEach es X.env := by rfl) (hpl : (backTo pos (starEach es X.env)).any (·.1) = false := by rfl) : PE X (.Call (.Name x p) (e :: es) [] pos) (tCall sp [] E t) := by
  obtain ⟨rfl, rfl, rfl, rfl, rfl, rfl⟩ := hX
  obtain ⟨f, fd, a, b, c, d⟩ := F.ex
  exact pe_call c hr hg a b d .nil hp ha hd he hpl
theorem ps_raiseE {tm : L2.St → Hp → XK → Prop} (hc : X.calm = true) (tk : Takes X (fun cls d _ H => E cls d H)) (he : PMk X e tm) : PS X (.Raise (some e) none pos) (tRs E tm) := ps_raise hc tk he
end
section
variable {cls : Value} {fs : List (Str × V)} {E : XK} {ρ ρ1 : Rho} {s1 s2 : TS} {te : TE} {tt : TT} {ta : TA} {b : Bool} {g : TG} {R : List Dt → Prop} {ds : List Dt}
theorem sx_seq (h1 : Sd s1 ρ (.nx ρ1)) (h2 : Sx cls fs E s2 ρ1) : Sx cls fs E (tSeq s1 s2) ρ := fun H σ D e k => h1 H σ { D with nx := s2 D } e fun σ' H' e' en => h2 H' σ' D en (k.mono e')
theorem sx_seq1 (h1 : Sx cls fs E s1 ρ) : Sx cls fs E (tSeq s1 s2) ρ := fun H σ D e k => h1 H σ { D with nx := s2 D } e k
theorem sx_if (h : Td tt ρ b) (h1 : b = true → Sx cls fs E s1 ρ) (h2 : b = false → Sx cls fs E s2 ρ) : Sx cls fs E (tIfS tt s1 s2) ρ := fun H σ D e k => h H σ e _ fun H1 e1 => by
  cases b with
  | true => exact h1 rfl H1 σ D (e.mono e1) (k.mono e1)
  | false => exact h2 rfl H1 σ D (e.mono e1) (k.mono e1)
theorem sx_ifR (h : Td tt ρ b) (hb : b = false) (h2 : Sx cls fs E s2 ρ) : Sx cls fs E (tSeq (tIfS tt s1 tNext) s2) ρ := fun H σ D e k => h H σ e _ fun H1 e1 => by
  subst hb
  exact h2 H1 σ D (e.mono e1) (k.mono e1)
theorem sx_asg (h : Exx cls fs E te ρ) : Sx cls fs E (tAsg te g) ρ := fun H σ D e k => h H σ _ e k
theorem sx_call (h : EdA ta ρ ds) (hr : R ds) : Exx cls fs E (tCall (spX cls fs R) [] E ta) ρ := fun H σ Q e k => h H σ e _ fun vs H1 e1 p1 => ⟨ds, hr, by rw [List.append_nil]; exact p1, k.mono e1⟩
theorem sx_tm {C : Addr} {v : V} (h : EdA ta ρ [dV v]) : Sx (.ref C) [("value", v)] E (tRs E (tTm C ta)) ρ := fun H σ D e k => h H σ e _ fun vs H1 e1 p1 => by
  obtain ⟨u, rfl, pu⟩ := all2_1 p1
  have pu : u = v := pu
  subst pu
  exact ⟨_, rfl, fun d hd => k d _ (e1.trans (Ex.new hd)) upd_same⟩
theorem sx_while {c : TT} (n : Nat) (st : Nat → Rho) (h0 : Wk ρ (st 0)) (hc : ∀ i, i ≤ n → Td c (st i) true) (hb : ∀ i, i < n → Sd s1 (st i) (.nx (st (i + 1)))) (hn : Sx cls fs E s1 (st n)) : Sx cls fs E (tWhile c s1) ρ := fun H σ D e k => by
  refine ⟨fun m σ2 H2 => ∃ i, m = n - i ∧ i ≤ n ∧ Ex H H2 ∧ EnvOk H2 (st i) σ2, ⟨_, 0, rfl, Nat.zero_le _, Ex.refl _, h0.ok e⟩, ?_⟩
  rintro m σ2 H2 ⟨i, rfl, hi, e2, en⟩
  refine hc i hi H2 σ2 en _ fun H3 e3 => ?_
  rw [if_pos rfl]
  by_cases hlt : i < n
  · exact ⟨fun σ' H' => Ex H H' ∧ EnvOk H' (st (i + 1)) σ', fun σ' H' ⟨a, b⟩ => ⟨n - (i + 1), by omega, i + 1, rfl, hlt, a, b⟩, hb i hlt H3 σ2 _ (en.mono e3) fun σ' H' e' en' => ⟨(e2.trans e3).trans e', en'⟩⟩
  · have ei : i = n := by omega
    subst ei
    exact ⟨fun _ _ => False, fun _ _ z => z.elim, hn H3 σ2 _ (en.mono e3) (k.mono (e2.trans e3))⟩
end
theorem fn_raise {P : Program} {w : World} {K : PySem.W.Frag} {mg : Str → Option Value} {base : Heap} {x qual : Str} {params : Arguments} {body : List Stmt} {scope : Scope} {dvs : List V} {kws : List (Str × V)} {f : Addr} {fd : FuncData} {N ps : List Str} {k : Nat} {R : List Dt → Prop} {cls : Value} {fs : List (Str × V)}
    (F : FunD K x qual params body scope dvs kws f fd) (S : FnScope N ps scope) (hl : ∀ ds, R ds → ds.length = ps.length)
    (hb : ∀ (cdv : Value) (A : Around) (outer : List Env) (s : Shared) (H : Hp) (E : XK), Room k (A.deeper (envOfC qual scope s.heap.objs.size f cdv)) →
      ∃ t, PSs (cxOf (L2.CX P w) P w K mg base N qual scope f cdv A outer s H E) body t ∧ ∀ ds, R ds → Sx cls fs E t (ds.map some ++ List.replicate (N.length - ds.length) none)) : FnOk P w K mg base (L2.CX P w) (k + 1) f fd ps (spX cls fs R) := by
  refine F.ok S (fun vs H Q E ⟨ds, r, h, _⟩ => ?_) (fun cdv A outer s H vs Q E hr ⟨ds, r, h, q⟩ => ?_)
  · rw [← hl ds r, h.len]
  · obtain ⟨t, ht, hs⟩ := hb cdv A outer s H E hr
    refine ⟨t, ht, hs ds r H _ _ ?_ q⟩
    unfold L2.start
    rw [← h.len]
    exact EnvOk.start h _
/-- of a def's context -/
theorem takes_cx {P : Program} {w : World} {K : PySem.W.Frag} {mg : Str → Option Value} {base : Heap} {N : List Str} {qual : Str} {scope : Scope} {f : Addr} {cdv : Value} {A : Around} {outer : List Env} {s : Shared} {H : Hp} {E : XK} :
    Takes (cxOf (L2.CX P w) P w K mg base N qual scope f cdv A outer s H E) (fun cls d _ H => E cls d H) := takes_of rfl rfl rfl rfl
theorem passes_cx {P : Program} {w : World} {K : PySem.W.Frag} {mg : Str → Option Value} {base : Heap} {N : List Str} {qual : Str} {scope : Scope} {f : Addr} {cdv : Value} {A : Around} {outer : List Env} {s : Shared} {H : Hp} {E : XK} :
    Passes (L2.CX P w) (cxOf (L2.CX P w) P w K mg base N qual scope f cdv A outer s H E) E := passes_call takes_cx fun _ _ _ _ h => h
section
variable {P : Program} {w : World} {K : PySem.W.Frag} {mg : Str → Option Value} {base : Heap}
abbrev cTM (K : PySem.W.Frag) : Value := .ref (He.ga K "TooMany")
abbrev fs30 : List (Str × V) := [("value", .int 30)]
/-- thirty labels of the class e do not reach beyond t -/
def Within30 (S : Sty) (z t : Int) (e : Nat) : Prop := 1 ≤ br S z e e ∧ gr S z e - 1 + 29 * (br S z e e - 1) ≤ t
def RX_row_beyond (K : PySem.W.Frag) : List Dt → Prop := fun ds => ∃ S : Sty, ∃ z : Int, ∃ t : Int, ∃ e : Nat, (S.Ok) ∧ (firstOwn S z = some e) ∧ (Within30 S z t e) ∧ ds = [dVw K S z, dI t]
theorem fx_row_beyond (T : Tx w K mg) (Z : TmX P K mg) : Fn1 P w K mg base 8 "row_beyond" ["view", "strip"] (spX (cTM K) fs30 (RX_row_beyond K)) := by
  obtain ⟨fd, F⟩ := T.f_row_beyond
  have nd := sc_row_beyond.nd
  refine mk_fn1 T.g_row_beyond F.kp (fn_raise F sc_row_beyond (by rintro _ ⟨S, z, t, e, c0, c1, c2, rfl⟩; rfl) (fun cdv A outer s H E hr => ?_)) (F.bindsN fun _ _ _ _ _ _ us hl => match us, hl with | [_, _], _ => rfl)
  have hu := hu_of hr
  have hu65 := hu65 hr
  refine ⟨_, (pss_cons (ps_set (i := 2) nd rfl (Or.inl rfl) (pe_callF (fn_endless T) hr (pa_cons (pv 0) pa_nil))) (pss_cons (ps_if (pt_cmp (pc_isN (pv 2))) (pss_cons ps_never (pss_one ps_never)) pss_nil) (pss_cons (ps_set (i := 3) nd rfl (Or.inl rfl) (pe_tup (pa_cons (pv 2) pa_nil))) (pss_cons (ps_while (passes_of rfl) (pt_cmpR op_le (pe_callF (fn_strip_of T) hr (pa_cons (pv 0) (pa_cons (pv 3) pa_nil))) (pv 1) (nomark _)) (pss_cons (ps_if (pt_cmpR op_eq (pe_bi (crK_len K) T.b_len (by decide +kernel) (pa_cons (pv 3) pa_nil)) (pe_gint T.c_MOST_LABELS) (nomark _)) (pss_one (ps_raiseE rfl takes_cx (pmk_tm (k := 0) Z.c Z.s (hr.mono (by decide)) rfl T.g_TooMany (pa_cons (pe_gint T.c_MOST_LABELS) pa_nil)))) pss_nil) (pss_one (ps_set (i := 3) nd rfl (Or.inl rfl) (pe_tup (pa_starK K (pv 3) (pa_cons (pv 2) pa_nil))))))) (pss_one (ps_ret (pv 3))))))), ?_⟩
  rintro _ ⟨S, z, t, e, c0, c1, c2, rfl⟩
  have hin := (firstOwn_in c1).1
  refine sx_seq (sd_set (ed_call (eda_cons ed_var eda_nil) ⟨_, _, _, c0, c1, rfl, rfl⟩)) ?_
  refine sx_ifR (td_B (ed_isSome ed_var (notN_V (by simp)))) (by decide) ?_
  refine sx_seq (sd_set (ed_tup (K := K) (eda_cons ed_var eda_nil) (by simp))) ?_
  have hle : ∀ i : Nat, i ≤ 29 → gr S z e - 1 + (i : Int) * (br S z e e - 1) ≤ t := fun i hi => by
    have h1 := c2.1
    have h2 := c2.2
    have : (i : Int) * (br S z e e - 1) ≤ 29 * (br S z e e - 1) := Int.mul_le_mul_of_nonneg_right (by omega) (by omega)
    omega
  refine sx_seq1 (sx_while 29 (fun i => [some (dVw K S z), some (dI t), some (dI (e : Int)), some (dTup K (List.replicate (i + 1) (dI (e : Int))))]) (Wk.refl _) (fun i hi => ?_) (fun i hi => ?_) ?_)
  · exact td_is (td_test (ed_le (ed_call (eda_cons ed_var (eda_cons ed_var eda_nil)) ⟨_, _, _, i, ⟨c0, hin⟩, by omega, rfl, rfl⟩) ed_var)) (decide_eq_true (hle i hi))
  · refine sd_seq (sd_if (td_test (ed_eqI (ed_cb (eda_cons ed_var eda_nil) cd_lenT) ed_c)) (fun hb => ?_) (fun _ => sd_next)) (sd_set (ed_is (ed_tup (K := K) (eda_star ed_var (eda_cons ed_var eda_nil)) (by simp; omega)) ?_))
    · rw [List.length_replicate] at hb
      exact absurd (of_decide_eq_true hb) (by omega)
    · rw [← List.replicate_succ']
  · exact sx_seq1 (sx_if (td_test (ed_eqI (ed_cb (eda_cons ed_var eda_nil) cd_lenT) ed_c)) (fun _ => sx_tm (eda_cons ed_c eda_nil)) (fun hb => absurd hb (by rw [List.length_replicate]; decide)))
def RX_cut (K : PySem.W.Frag) : List Dt → Prop := fun ds => ∃ S : Sty, ∃ z : Int, ∃ t : Int, ∃ e : Nat, (S.Ok) ∧ (0 ≤ z ∧ z ≤ S.last) ∧ (0 ≤ t ∧ t ≤ 99999) ∧ (firstOwn S z = some e) ∧ (Within30 S z t e) ∧ ds = [dSty K S, dI z, dI t]
theorem fx_cut (T : Tx w K mg) (Z : TmX P K mg) : Fn1 P w K mg base 9 "cut" ["style", "zoom", "strip"] (spX (cTM K) fs30 (RX_cut K)) := by
  obtain ⟨fd, F⟩ := T.f_cut
  have nd := sc_cut.nd
  refine mk_fn1 T.g_cut F.kp (fn_raise F sc_cut (by rintro _ ⟨S, z, t, e, c0, c1, c2, c3, c4, rfl⟩; rfl) (fun cdv A outer s H E hr => ?_)) (F.bindsN fun _ _ _ _ _ _ us hl => match us, hl with | [_, _, _], _ => rfl)
  have hu := hu_of hr
  have hu65 := hu65 hr
  refine ⟨_, (pss_cons (ps_expr (pe_methF (fn_Style_check_zoom T) T.cl_Style (hr.mono (by decide)) (pv 0) (pa_cons (pv 1) pa_nil))) (pss_cons (ps_expr (pe_callF (fn_check_strip T) (hr.mono (by decide)) (pa_cons (pv 2) pa_nil))) (pss_cons (ps_set (i := 3) nd rfl (Or.inl rfl) (pe_makeF (fn_View_init T) (hr.mono (by decide)) (pa_cons (pv 0) (pa_cons (pv 1) pa_nil)))) (pss_cons (ps_set (i := 4) nd rfl (Or.inl rfl) (pe_callX (fx_row_beyond T Z) hr (pa_cons (pv 3) (pa_cons (pv 2) pa_nil)) passes_cx)) (pss_cons (ps_if (pt_cmp (pc_isN (pv 4))) (pss_one ps_never) pss_nil) (pss_one (ps_ret (pe_tup (pa_cons (pe_gstr T.c_CUT) (pa_cons (pe_gref T.g_CUT_TILE) (pa_cons (pe_callF (fn_labels_of T) (hr.mono (by decide)) (pa_cons (pv 3) (pa_cons (pv 4) (pa_cons (pe_gref T.g_CUT_TILE) pa_nil)))) pa_nil))))))))))), ?_⟩
  rintro _ ⟨S, z, t, e, c0, c1, c2, c3, c4, rfl⟩
  refine sx_seq (sd_drop (ed_meth ed_var (md_Style T) (eda_cons ed_var eda_nil) ⟨⟨_, _, c1, rfl⟩, rfl⟩)) ?_
  refine sx_seq (sd_drop (ed_call (eda_cons ed_var eda_nil) ⟨⟨_, c2, rfl⟩, rfl⟩)) ?_
  refine sx_seq (sd_set (ed_view ed_var ed_var c0 c1)) ?_
  exact sx_seq1 (sx_asg (sx_call (eda_cons ed_var (eda_cons ed_var eda_nil)) ⟨_, _, _, _, c0, c3, c4, rfl⟩))
end
end Sl
/-! SlTr: try .. except X as n, the exception kept behind the suite; _law_caught. -/
namespace Sl
open PySem PySem.Spec PyProof.Rows L2 StX RZ
open Evl (Ex ex_l ex_t ex_rd sq_of st_of sz_of sz_lt fresh_back)
/-- at a: a caught exception of the class cls, its dict d -/
def ExH (cls : Value) (d : Option Addr) (a : Addr) : HO := .ext fun h => ∃ (oe : Obj) (vs : Array Value), h.get? a = some oe ∧ Zc cls d oe ∧ oe.data = .fields vs
theorem exH_at {P : Program} {w : World} {H : Hp} {h : Heap} {cls : Value} {d : Option Addr} {a : Addr} (hok : HOk P w H h) (e : H a = some (ExH cls d a)) : ∃ (oe : Obj) (vs : Array Value), h.get? a = some oe ∧ Zc cls d oe ∧ oe.data = .fields vs := by
  have x : ObjOk P w H h a (ExH cls d a) := hok a _ e
  exact x.1
section
variable {X : Cx} {pins : List (Addr × Obj)} {σ : L2.St} {H : Hp} {sI s : Shared} {B : Heap} {a : Addr} {cls : Value} {d : Option Addr}
/-- landed, the exception tracked -/
theorem inv_held (I : Inv X pins σ H sI) (hx : X.ex = []) (nb : ∀ b o, sI.heap.get? b = some o → b ∉ frs X.stack → B.get? b = some o) (st : B.StaysIn s.heap) (up : sI.heap.UpToSlots s.heap) (os : s.os = sI.os) (ag : AllBare s.gens)
    (na : H a = none) (nB : B.get? a = none) (nfr : a ∉ frs X.stack) (nL : a ≠ X.env.locals) (nF : a ∉ X.fs) {oe : Obj} {vs : Array Value} (he : s.heap.get? a = some oe) (hz : Zc cls d oe) (hd : oe.data = .fields vs) : Inv X pins σ (upd H a (ExH cls d a)) s := by
  have J : Inv X pins σ H s := I.landed nb st up os ag
  have nI : sI.heap.get? a = none := by
    cases q : sI.heap.get? a with
    | none => rfl
    | some o =>
      have z := nb a o q nfr
      rw [nB] at z
      cases z
  have n0 : ∀ b o, X.s_0.heap.get? b = some o → b ≠ a := fun b o q z => by
    subst z
    obtain ⟨o', q'⟩ := I.base.there b o q (by rw [hx]; exact fun z => nomatch z)
    rw [nI] at q'
    cases q'
  have nc : ∀ x c, X.env.cells.lookup x = some c → c ≠ a := fun x c q z => by
    obtain ⟨v, o, q1, q2⟩ := J.cell x c q
    rw [z, he] at q1
    cases q1
    rw [hd] at q2
    cases q2
  have up' : ∀ {b : Addr} {o : HO}, H b = some o → upd H a (ExH cls d a) b = some o := fun {b o} q => by rw [upd_ne (ne_of_none q na)]; exact q
  refine ⟨J.ok, J.os, J.bare, ⟨J.base.keep, J.base.slot, fun b o q n z => by rw [upd_ne (n0 b o q)]; exact J.base.free b o q n z, J.base.there, fun b xs q => up' (J.base.tups b xs q), fun b o u q => up' (J.base.frzs b o u q), fun b ps q => ?_⟩, J.loc, J.cell, by rw [upd_ne nL.symm]; exact J.free,
    fun x c q => by rw [upd_ne (nc x c q)]; exact J.freeC x c q, fun p hp => ?_, fun b o q => ?_, J.len⟩
  · obtain ⟨m, z⟩ := J.base.tbls b ps q
    exact ⟨m, up' z⟩
  · obtain ⟨e1, e2, e3, e4, e5⟩ := J.pin p hp
    refine ⟨e1, ?_, e3, e4, e5⟩
    rw [upd_ne fun z => ?_]
    · exact e2
    · have := (I.pin p hp).1
      rw [z, nI] at this
      cases this
  · by_cases hb : b = a
    · subst hb
      rw [upd_same] at q
      cases q
      exact ⟨⟨oe, vs, he, hz, hd⟩, ⟨oe, he⟩, fun h1 h2 ⟨o, v, q, r⟩ k => ⟨o, v, k o q, r⟩⟩
    · rw [upd_ne hb] at q
      exact (J.hok b o q).stay (fun c v _ z => z) (fun c z => up' z) fun c xs z => up' z
theorem inv_inS (I : Inv X pins σ H s) (a : Addr) : Inv (X.suite a (X.pn ++ pins)) [] σ H s :=
  ⟨I.ok.suite _ _, I.os, I.bare, I.base, I.loc, I.cell, I.free, I.freeC, fun p hp => I.pin p (by have hp : p ∈ (X.pn ++ pins) ++ [] := hp; rw [List.append_nil] at hp; exact hp), I.hok, I.len⟩
theorem inv_offS (I : Inv (X.suite a (X.pn ++ pins)) [] σ H s) (ok : X.Ok) : Inv X pins σ H s :=
  ⟨ok, I.os, I.bare, I.base, I.loc, I.cell, I.free, I.freeC, fun p hp => I.pin p (List.mem_append_left _ hp), I.hok, I.len⟩
end
def wHeld (n : Nat) (K : PySem.W.Frag) (c : Value) (i : Nat) (ts : Addr → TS) (D : Ends) : WX := fun cls d σ H => σ.length = n → PySem.W.exmOne K cls c = some true ∧ ∀ a, H a = none →
  ts a { nx := fun σ' H' => D.nx (σ'.set i none) H', rt := D.rt, bk := fun σ' H' => D.bk (σ'.set i none) H', ct := fun σ' H' => D.ct (σ'.set i none) H' } (σ.set i (some (.ref a))) (upd H a (ExH cls d a))
section
variable {X : Cx} {x n : Str} {c : Value} {i : Nat} {body suite : List Stmt} {b₀ : Stmt} {np pos pos' : Pos} {tb : WX → TS} {ts : Addr → TS}
theorem ps_try_held (hs : X.stack = X.env :: X.outer) (hf : X.env.frame = some X.env.locals) (hx : X.ex = []) (hN : X.N.Nodup) (hi : X.N[i]? = some n) (hln : X.env.kindOf n = some .local) (hc : Names X x c)
    (hb : ∀ (W : WX) (pn : List (Addr × Obj)) (xe : Value → Shared → Prop), Takes (X.tr pn xe) W → PassesOwn (model X.prog X.w) X.A X.env xe → PSs (X.tr pn xe) body (tb W))
    (hsu : ∀ (a : Addr) (pn : List (Addr × Obj)), PSs (X.suite a pn) (b₀ :: suite) (ts a)) :
    PS X (.Try body [.ExceptHandler (some (.Name x np)) (some n) (b₀ :: suite) pos'] [] [] pos) (fun D σ H => tb (wHeld X.N.length X.K c i ts D) D σ H) := by
  refine ⟨fun pins s σ H D I h => ?_⟩
  have ok := I.ok
  have hfr : X.A.frames = some (X.env :: X.outer) := ok.frames.trans (by rw [hs])
  refine wpAny_Try_except (wpAny_mono ((hb (wHeld X.N.length X.K c i ts D) (X.pn ++ pins) (fun e s₁ => wpAny (model X.prog X.w) X.A (noteFrame e X.env) (fun _ s₂ => wpAny (model X.prog X.w) X.A (setFlight e none) (fun _ s₃ =>
    wpAny (model X.prog X.w) X.A (handleBy e X.env [.ExceptHandler (some (.Name x np)) (some n) (b₀ :: suite) pos']) (SP X pins D) X.xe s₃) X.xe s₂) X.xe s₁) (fun u s' xx => ?_) PassesOwn.looking).run [] s σ H D (I.toTry _) h) (fun f s1 hsp => ?_) (fun e s1 he => he))
  · obtain ⟨a, B, sI, pins', σ', H', cls, d, rfl, J', nb, up, sky, na, os, ag, hw⟩ := xx
    obtain ⟨hb1, hyes⟩ := hw J'.len
    have J : Inv X pins σ' H' sI := J'.ofTry ok
    show wpAny (model X.prog X.w) X.A (noteFrame (.ref a) X.env) _ _ _
    refine Sky.land Zc.steady hfr hf (by rw [← hs]; exact sky) fun h3 fl3 up3 => ?_
    obtain ⟨oe3, vs3, he3, hz3, hd3⟩ := fl3.there
    have J3 : Inv X pins σ' H' { s' with heap := h3 } := J.landed nb fl3.1 (up.trans up3) os ag
    have nfr : a ∉ frs (X.env :: X.outer) := fun hm => by
      obtain ⟨_, o', e', hnf⟩ := fl3.2.2.1.mem hm
      exact hnf vs3 (by rw [he3] at e'; cases e'; exact hd3)
    have nL : a ≠ X.env.locals := fun z => nfr (List.mem_filterMap.mpr ⟨X.env, List.mem_cons_self, hf.trans (congrArg some z.symm)⟩)
    have nF : a ∉ X.fs := fun hm => by
      obtain ⟨e, he, q⟩ := List.mem_filterMap.mp hm
      exact nfr (List.mem_filterMap.mpr ⟨e, .tail _ he, q⟩)
    have S3 := J3.suite he3 hd3 na nL nF
    refine wpAny_handleBy_cons (codeAny_handlers_test ?_) (by intro q; cases q)
    have LM := PySem.W.exm_one (M := model X.prog X.w) J3.kIn (show PySem.W.Looks (model X.prog X.w) h3 (typeOf (.ref a)) cls from fun A Q E s k q => wpAny_typeOf_ref (k _ _ he3) (by rw [hz3.1]; exact q)) hb1
    have test : ∀ {Q : Value → Shared → Prop} {E : Value → Shared → Prop}, Q c { s' with heap := h3 } → wpAny (model X.prog X.w) (X.A.mark (some (.ref a))) (eval (.Name x np) X.env) Q E { s' with heap := h3 } := fun {Q E} q => by
      obtain ⟨hg, hdbg, hm | ⟨hm, hv, hnn⟩⟩ := hc
      · exact ld_glob (X := X.suite a ((a, oe3) :: (X.pn ++ pins))) S3 hg hm q hdbg
      · exact ld_blt (X := X.suite a ((a, oe3) :: (X.pn ++ pins))) S3 hg hm hv q hnn hdbg
    refine test (LM.here (codeAny_handlers_suite_as (HandSPX.lands_againZ fl3 fun h4 fl4 up4 => ?_)))
    obtain ⟨oe4, vs4, he4, hz4, hd4⟩ := fl4.there
    have J4 : Inv X pins σ' (upd H' a (ExH cls d a)) { s' with heap := h4 } := inv_held J hx nb fl4.1 ((up.trans up3).trans up4) os ag na fl4.2.1 (by rw [hs]; exact nfr) nL nF he4 hz4 hd4
    refine store_ok (X := X.suite a (X.pn ++ pins)) (v := .ref a) (inv_inS J4 a) hN hi (.inl hln) rfl (fun s5 S5 => ?_) (.inr hln)
    refine wpAny_mono ((hsu a (X.pn ++ pins)).run [] s5 _ _ _ S5 (hyes a na)) (fun f s6 hsp => ?_) (fun _ _ z => False.elim z)
    have fin : ∀ {σ6 : L2.St} {H6 : Hp} {Q : Shared → Prop}, Inv (X.suite a (X.pn ++ pins)) [] σ6 H6 s6 → (∀ s7, Inv X pins (σ6.set i none) H6 s7 → Q s7) → wpAny (model X.prog X.w) X.A (do bindName X.env n .none; unbindBehindTheSuite X.env n pos') (fun _ s7 => Q s7) X.xe s6 :=
      fun {σ6 H6 Q} S6 hq => gone_ok (inv_offS S6 ok) hN hi hln hq
    cases f with
    | ret u =>
      obtain ⟨v6, σ6, H6, S6, r6, q6⟩ := hsp
      exact fin S6 fun s7 J7 => ⟨_, _, _, J7, r6, q6⟩
    | _ =>
      obtain ⟨σ6, H6, S6, q6⟩ := hsp
      exact fin S6 fun s7 J7 => ⟨_, _, J7, q6⟩
  · cases f with
    | ret u =>
      obtain ⟨v, σ', H', J', r, q⟩ := hsp
      exact ⟨v, σ', H', J'.ofTry ok, r, q⟩
    | next =>
      obtain ⟨σ', H', J', q⟩ := hsp
      exact wpAny_execs_nil ⟨σ', H', J'.ofTry ok, q⟩
    | brk =>
      obtain ⟨σ', H', J', q⟩ := hsp
      exact ⟨σ', H', J'.ofTry ok, q⟩
    | cont =>
      obtain ⟨σ', H', J', q⟩ := hsp
      exact ⟨σ', H', J'.ofTry ok, q⟩
end
/-! ### _law_caught -/
abbrev N_caught : List Str := ["_law_ask", "_law_caught_here", "error"]
theorem sc_caught : FnScope N_caught ["_law_ask"] (defScope s_law_caught) := ⟨rfl, rfl, rfl, by decide +kernel, rfl, by decide +kernel, by decide +kernel⟩
def TTc (K : PySem.W.Frag) (L : Value) : (XK → Hp → VK → Prop) → Hp → VK → Prop := fun tl H Q =>
  tl (fun cls d H' => PySem.W.exmOne K cls L = some true ∧ ∀ a, H' a = none → Q (.ref a) (upd H' a (ExH cls d a))) H (fun _ H' => Q .non H')
theorem caught_gives {X : Cx} {q : Str} {g CS : Addr} {cdg : Value} (hme : X.mg "LabelError" = some (.ref CS)) :
    LamX.GivesTo X N_caught "_law_caught" (defScope s_law_caught) g cdg (defBody s_law_caught) "_law_ask" q (TTc X.K (.ref CS)) := by
  intro f c' s H Q tl act hc h
  have nd := sc_caught.nd
  refine ⟨_, pss_cons (ps_set (i := 1) nd rfl (Or.inl rfl) pe_non) (pss_cons (ps_try_held (X := (cxOf C8.CX0 X.prog X.w X.K X.mg X.base N_caught "_law_caught" (defScope s_law_caught) g cdg X.A X.stack s H C8.E0).nox) (i := 2) (c := .ref CS)
      (tb := fun W D σ H => ∃ Ech : XK, (∀ cls d σ' H', Ech cls d H' → W cls d σ' H') ∧ σ[0]? = some (some (.ref f)) ∧ H c' = some (LamX.CodeO c' q) ∧ tl Ech H (fun _ H' => D.nx σ H'))
      rfl rfl rfl nd rfl rfl ⟨rfl, rfl, .inl hme⟩ (fun W pn xe tk _ => ?_) (fun a pn => pss_one (ps_set (i := 1) nd rfl (Or.inl rfl) (pv 2)))) (pss_one (ps_ret (pv 1)))), ?_⟩
  · refine ⟨fun pins s' σ H' D I h' => ?_⟩
    obtain ⟨Ech, hW, h1, h2, h3⟩ := h'
    exact (pss_one (ps_expr (act W pn xe Ech _ _ tk hW))).run pins s' σ H' D I ⟨h1, h2, h3⟩
  · refine ⟨fun cls d H' => PySem.W.exmOne X.K cls (.ref CS) = some true ∧ ∀ a, H' a = none → Q (.ref a) (upd H' a (ExH cls d a)), fun cls d σ' H' ⟨e1, e2⟩ hl => ⟨e1, fun a na => ?_⟩, rfl, hc, ?_⟩
    · have h3 : σ'.length = 3 := hl
      have g2 : (σ'.set 2 (some (V.ref a)))[2]? = some (some (V.ref a)) := List.getElem?_set_self (by omega)
      have g1 : (((σ'.set 2 (some (V.ref a))).set 1 (some (V.ref a))).set 2 none)[1]? = some (some (V.ref a)) := by
        rw [List.getElem?_set_ne (by decide)]
        exact List.getElem?_set_self (by rw [List.length_set]; omega)
      exact ⟨_, g2, ⟨_, g1, e2 a na⟩⟩
    · have e : (fun (_ : V) (H' : Hp) => ∃ v, ([some (V.ref f), some V.non, none] : L2.St)[1]? = some (some v) ∧ Q v H') = fun _ H' => Q .non H' := funext fun _ => funext fun H' => propext ⟨fun ⟨v, z, q⟩ => by cases z; exact q, fun q => ⟨_, rfl, q⟩⟩
      show tl _ H (fun (_ : V) (H' : Hp) => ∃ v, ([some (V.ref f), some V.non, none] : L2.St)[1]? = some (some v) ∧ Q v H')
      rw [e]
      exact h
end Sl
/-! SlLa: a lambda handed to a def, told what becomes of the heap: all but the table stays; isinstance and a field of a kept exception. -/
namespace Sl
open PySem PySem.Spec PyProof.Rows L2 StX RZ LamX
open Evl (Ex ex_l ex_t ex_rd sq_of st_of sz_of sz_lt fresh_back)
section
variable {X : Cx} {pins : List (Addr × Obj)} {σ : L2.St} {H : Hp} {s : Shared}
theorem tabS_J {H H' : Hp} {P : Addr} {q : Str} (e : Ex H H') (t : TabS H P q) : TabS H' P q := t.ext e
/-- the lambda is made: all but the table stays -/
theorem lam_make3 {c P : Addr} {params : Arguments} {body : Expr} {scope : Scope} {pos : Pos} {E : Value → Shared → Prop} {Q : Value → Shared → Prop} {q : Str} (I : Inv X pins σ H s) (TB : TabB X.base X.mg c P) (hcode : X.env.code = .ref c) (eq : q = X.env.qual ++ "<lambda>")
    (hT : TabS H P q) (hdef : defaultsOf params X.env = ([], [])) (hfree : ∀ y ∈ scope.names, y.2 = .free → ∃ c, X.env.cells.lookup y.1 = some c)
    (h : ∀ (f c' : Addr) (pm ctv : Value) (H1 : Hp) (s' : Shared), Inv X pins σ H1 s' → Ex (hideL [P] H) (hideL [P] H1) → TabS H1 P q → s'.heap.get? f = some (PySem.W.kla_obj "<lambda>" q params body scope (cloFrom X.env.cells scope.names []) pm c' ctv) → H1 f = none → f ∉ frs X.stack →
      H1 c' = some (CodeO c' q) → Q (.ref f) s') : wpAny (model X.prog X.w) X.A (eval (.Lambda params body scope pos) X.env) Q E s := by
  subst eq
  obtain ⟨ps, hP, ht, ha⟩ := hT
  have gP : s.heap.get? P = some { cls := .none, data := .fields ps } := I.hok P _ hP
  have gB := I.mod.glob.keeps I.bk
  have nofr : ∀ f, s.heap.objs.size ≤ f → f ∉ frs X.stack := fun f hf z => (List.mem_cons.mp (I.stkSub _ z)).elim (fun e => absurd (Nat.lt_of_lt_of_le I.lt (e ▸ hf)) (Nat.lt_irrefl _)) (fun e => I.nofs hf e)
  refine PySem.W.kla_eval hdef ?_
  cases hc : codeAmong pos ps.toList with
  | some cv =>
    obtain ⟨c', rfl, hco⟩ := ha pos cv hc
    exact PySem.W.kla_makeFunctionHit (mg := X.mg) (c := c) (P := P) (ps := ps) (closure_ok hfree) I.ok.glob gB hcode (TB.code.keeps I.bk) gP ht hc (TB.bm.keeps I.bk) fun ctv h' tk hx hsz =>
      h h'.objs.size c' ((X.mg "__name__").getD .none) ctv H _ (I.kept (t' := tk) fun b o e => Heap.get?_push_of_some _ (hx b o e)) (Ex.refl _) ⟨ps, hP, ht, ha⟩ (Heap.get?_push_size _ rfl) (I.hok.fresh hsz) (nofr _ hsz) hco
  | none =>
    refine PySem.W.kla_makeFunction (mg := X.mg) (c := c) (P := P) (ps := ps) (closure_ok hfree) I.ok.glob gB hcode (TB.code.keeps I.bk) gP ht hc TB.gP (TB.bm.keeps I.bk) fun c' ctv h' tk hx hge hlt hrec htb => ?_
    obtain ⟨c2, oc, vs, t, e2, hoc, hd, hv⟩ := hrec
    injection e2 with e2
    subst e2
    have nC : H c' = none := I.hok.fresh hge
    have hsz : s.heap.objs.size ≤ h'.objs.size := Nat.le_of_lt (Nat.lt_of_le_of_lt hge hlt)
    have ncP : c' ≠ P := (ne_of_none hP nC).symm
    have I1 := inv_table (q := X.env.qual ++ "<lambda>") (t' := tk) (more := #[rawInt pos.line, rawInt pos.col, .ref c']) (h' := h'.push (PySem.W.kla_obj "<lambda>" (X.env.qual ++ "<lambda>") params body scope (cloFrom X.env.cells scope.names []) ((X.mg "__name__").getD .none) c' ctv)) I hP
      (fun b o hb e => Heap.get?_push_of_some _ (hx b o hb e)) (Heap.get?_push_of_some _ htb) hge ⟨oc, vs, t, Heap.get?_push_of_some _ hoc, hd, hv⟩
    have keepN : ∀ b o, b ≠ P → H b = some o → upd (upd H P (.tbl (ps ++ #[rawInt pos.line, rawInt pos.col, .ref c']))) c' (CodeO c' (X.env.qual ++ "<lambda>")) b = some o := fun b o n e => by
      rw [upd_ne (ne_of_none e nC), upd_ne n]
      exact e
    have notT : ∀ {b : Addr}, H b = some (CodeO b (X.env.qual ++ "<lambda>")) → b ≠ P := fun {b} e z => by
      rw [z, hP] at e
      cases e
    refine h h'.objs.size c' ((X.mg "__name__").getD .none) ctv _ _ I1 (fun b o e => ?_) ⟨_, by rw [upd_ne ncP.symm, upd_same], ?_, fun p' cv hcv => ?_⟩ (Heap.get?_push_size _ rfl) ?_ (nofr _ hsz) upd_same
    · by_cases hb : b = P
      · rw [hideL_in (by simp [hb])] at e
        cases e
      · rw [hideL_at (by simpa using hb)] at e ⊢
        exact keepN b o hb e
    · rw [show (ps ++ #[rawInt pos.line, rawInt pos.col, Value.ref c']).toList = ps.toList ++ [rawInt pos.line, rawInt pos.col, .ref c'] by simp]
      exact PySem.TriplesOk_snoc _ _ _ _ ht
    · rw [show (ps ++ #[rawInt pos.line, rawInt pos.col, Value.ref c']).toList = ps.toList ++ [rawInt pos.line, rawInt pos.col, .ref c'] by simp] at hcv
      rcases among_app _ ht hcv with z | z
      · obtain ⟨c0, e1, e2⟩ := ha p' cv z
        exact ⟨c0, e1, keepN _ _ (notT e2) e2⟩
      · exact ⟨c', z, upd_same⟩
    · rw [upd_ne (Nat.ne_of_gt hlt), upd_ne (Nat.ne_of_gt (Nat.lt_of_lt_of_le (Heap.lt_size gP) hsz))]
      exact I.hok.fresh hsz
def tLam3 (P : Addr) (q : Str) (TT : (XK → Hp → VK → Prop) → Hp → VK → Prop) (t : XK → TE) : TE := fun σ H Q => TabS H P q ∧ ∀ H1, Ex (hideL [P] H) (hideL [P] H1) → TabS H1 P q → TT (fun E H' Q' => t E σ H' Q') H1 Q
/-- x(lambda: body) -/
theorem pe_lam3 {TT : (XK → Hp → VK → Prop) → Hp → VK → Prop} {x a q : Str} {g c P : Addr} {k : Nat} {pg : Arguments} {bg : List Stmt} {sg : Scope} {cdg oc : Value} {od : Option Addr} {osl : Array (Option Value)} {dV kV doc pm ct : Value} {an : Option Addr} {Ng : List Str}
    {params : Arguments} {body : Expr} {scope : Scope} {t : XK → TE} {p lpos pos : Pos} (hg : Gl X x) (hm : X.mg x = some (.ref g)) (hk : PySem.W.keepIn X.K (.ref g) = true)
    (lk : X.K.lookup g = some ⟨oc, od, .func (PySem.W.fnOf x x pg bg sg dV kV doc pm an cdg ct), osl⟩) (hcg : PySem.W.codeIn X.K cdg x = true) (hb : L2.Binds X.K (PySem.W.fnOf x x pg bg sg dV kV doc pm an cdg ct) [a] []) (Sg : FnScope Ng [a] sg) (hNg : Ng[0]? = some a) (hva : Vis sg a)
    (hG : GivesTo X Ng x sg g cdg bg a q TT) (eq : q = X.env.qual ++ "<lambda>") (TB : TabB X.base X.mg c P) (hcode : X.env.code = .ref c) (hr : Room (k + 2) X.A) (L : LamS X.env.scope scope) (hdef : defaultsOf params X.env = ([], []))
    (hbind : ∀ (q : Str) (cl : List (Str × Addr)) (pm cv ctv : Value), bindArgs (PySem.W.kla_fn "<lambda>" q params body scope cl pm cv ctv) ⟨[], []⟩ = pure [])
    (hbody : ∀ (A : Around) (outer : List Env) (s : Shared) (H : Hp) (E : XK) (f c' : Addr), Room k (A.deeper (lamEnv X scope s.heap.objs.size f c')) → PE (lamCx X A outer s H E scope f c') body (t E))
    (hdb : (x == ("__debug__" : Str)) = false := by decide) (hd : (a == ("__debug__" : Str)) = false := by decide) (hcd : (a == ("__classdict__" : Str)) = false := by decide) :
    PE X (.Call (.Name x p) [.Lambda params body scope lpos] [] pos) (tLam3 P q TT t) := by
  subst eq
  refine ⟨fun pins s σ H Q I ⟨hT, h⟩ => wpAny_Call_Name_kw (ld_glob I hg hm ?_ hdb)⟩
  refine PySem.W.callWith_K (h₀ := X.base) I.ok.mod.kin hk (Calls.spliced_cons (lam_make3 I TB hcode rfl hT hdef (L.has I.ok) fun f c' pm' ctv H1 s' I1 eN T1 hf hfn hfr hco => Calls.spliced_nil ⟨I1.kIn, ?_⟩)) (by rfl) (by rfl)
  have rc : codeAny (model X.prog X.w) X.A (.call (.ref g) ⟨[.ref f], []⟩) (CR C8.CX0 X.stack X.prog X.w H1 s' Q C8.E0) s' :=
    run_ofS (N := Ng) (ps := [a]) (us := [.ref f]) (vs := [.ref f]) lk hcg Sg hr I1.env0 (hb s' [.ref f] I1.kIn rfl) (.cons rfl .nil) rfl fun hr' => by
      obtain ⟨t', ht', hq'⟩ := hG f c' s' H1 Q (fun E H' Q' => t E σ H' Q') (fun W pn xe E p1 p2 tk hW => pe_act (i := 0) I1 L hf hfn hfr (hbind _ _ _ _ _) tk hW hr' (fun A outer s H hr2 => hbody A outer s H E f c' hr2) hNg hva hd hcd) hco (h H1 eN T1)
      exact ⟨t', ht'.nox, hq'⟩
  refine wpAny_call (codeAny_mono rc fun r s2 hq => ?_)
  match r, hq with
  | .ok (.ret u), hq => exact I1.after hq
  | .error e, hq => exact (show False from hq).elim
end
theorem passes_lam {X : Cx} {A : Around} {outer : List Env} {s : Shared} {H : Hp} {E : XK} {scope : Scope} {f c' : Addr} : Passes (L2.CX X.prog X.w) (lamCx X A outer s H E scope f c') E := passes_call (takes_of rfl rfl rfl rfl) fun _ _ _ _ h => h
/-! ### isinstance(e, C), e.f: e a kept exception of the class C -/
theorem exact_ans {x t : Value} {Hc : Heap → Prop} (ty : ∀ (M : Model) (h : Heap), Hc h → PySem.W.Looks M h (typeOf x) t) : Answers (fun s => Hc s.heap) x t true := by
  intro dep tk prog w A R s hs
  obtain ⟨h0, g, d, tt, os⟩ := s
  obtain ⟨p, hq⟩ := hs
  unfold Builtin.«isinstance.nested»
  refine wpAny_bind ((ty (model prog w) h0 p).at ?_)
  rw [if_pos (show (t == t) = true from beq_self_eq_true t)]
  first
    | ((repeat lk); exact hq tt)
    | exact wpAny_bind (wpAny_rule (hq tt))
    | exact wpAny_bind (wpAny_rule (wpAny_pure (hq tt)))
def rIsH : List V → Hp → VK → Prop := fun xs H Q => ∃ a C d, xs = [.ref a, .ref C] ∧ H a = some (ExH (.ref C) d a) ∧ Q (.bl true) H
theorem call_isH {X : Cx} : CallR X (.builtin "isinstance") rIsH := by
  intro pins s σ H xs us Q I r h
  obtain ⟨a, C, d, rfl, ea, q⟩ := h
  obtain ⟨oe, vs, e1, e2, e3⟩ := exH_at I.hok ea
  cases r with
  | cons rx rr =>
    cases rr with
    | cons rt rr =>
      cases rr
      cases rx
      cases rt
      exact call_isinstance (S := fun _ R s => (s.heap.get? a = some oe) ∧ ∀ tk, R (.ok (.ret (.bool true))) { s with toks := tk })
        (fun prog w A R s hs => isinstance_outer (exact_ans (Hc := fun h => h.get? a = some oe) (fun M h e A Q E s k q => wpAny_typeOf_ref (k _ _ e) (by rw [e2.1]; exact q)) 0 _ prog w A R s hs) (fun z => nomatch z)) ⟨e1, fun tk => ⟨.bl true, H, I.kept (t' := tk) fun _ _ z => z, rfl, q⟩⟩
def tXv (C : Addr) (f : Str) (te : TE) : TE := fun σ H Q => te σ H fun x H1 => ∃ (a dd : Addr) (fs : List (Str × V)) (v : V), x = .ref a ∧ H1 a = some (ExH (.ref C) (some dd) a) ∧ H1 dd = some (.xd fs) ∧ fs.lookup f = some v ∧ Q v H1
theorem pe_xv {X : Cx} {C : Addr} {e : Expr} {te : TE} {pos : Pos} {n : Str} (T : XfC X.K C) (hno : PySem.W.findIn X.K (.ref C) n = some none) (he : PE X e te) (hb : attributeBase e n X.env (eval e X.env) = eval e X.env := by rfl) : PE X (.Attribute e n pos) (tXv C n te) := by
  refine ⟨fun pins s σ H Q I h => attr_of hb (thn (he.run pins s σ H _ I h) fun u s1 ⟨x, H1, I1, rx, a, dd, fs, v, ex, ea, ed, l, q⟩ => ?_)⟩
  subst ex
  cases rx
  obtain ⟨oe, vs, e1, e2, e3⟩ := exH_at I1.hok ea
  obtain ⟨mA, hns, hr⟩ := (show ObjOk X.prog X.w H1 s1.heap dd (.xd fs) from I1.hok dd _ ed)
  obtain ⟨od, ho, hl⟩ := lookIn_ns hns
  obtain ⟨u, hu, ru⟩ := RelO.some_of (v := v) (o := mA n) (l ▸ hr n)
  have J : PySem.W.InstAt s1.heap a oe C (some od) := ⟨e1, e2.1, by unfold PySem.W.notCls; rw [e3] <;> rfl, by rw [e2.2]; exact ho⟩
  exact HandSPX.exc_get I1.kIn J T.ga T.gg T.exC (PySem.W.findObj_own T.hdC hno rfl (by rw [hl n, hu])) (handed_of ru) ⟨v, H1, I1.tok _, ru, q⟩
/-- a kept exception -/
def dErr (C : Addr) (fs : List (Str × V)) : Dt := ⟨fun H v => ∃ a d, v = .ref a ∧ H a = some (ExH (.ref C) (some d) a) ∧ H d = some (.xd fs), fun e ⟨a, d, h1, h2, h3⟩ => ⟨a, d, h1, e _ _ h2, e _ _ h3⟩⟩
section
variable {ρ : Rho} {ta : TA} {te : TE} {C : Addr} {fs : List (Str × V)}
theorem cd_isH : CD rIsH [dErr C fs, dV (.ref C)] (dB true) := fun H vs h Q q => by
  obtain ⟨v, u, rfl, ⟨a, d, rfl, h2, h3⟩, pu⟩ := all2_2 h
  have pu : u = .ref C := pu
  subst pu
  exact ⟨a, C, some d, rfl, h2, q _ H (Ex.refl H) rfl⟩
theorem ed_xv {f : Str} {v : V} (h : Ed te ρ (dErr C fs)) (hf : fs.lookup f = some v) : Ed (tXv C f te) ρ (dV v) := fun H σ e Q q => h H σ e _ fun x H1 e1 ⟨a, d, h1, h2, h3⟩ => ⟨a, d, fs, v, h1, h2, h3, hf, q v H1 e1 rfl⟩
end
end Sl
namespace Sl
open PySem PySem.Spec PyProof.Rows L2 StX RZ
open Evl (Ex ex_l ex_t ex_rd sq_of st_of sz_of sz_lt fresh_back)
local macro_rules | `(tactic| walk_at "sd") => `(tactic| first | assumption | omega | decide | (constructor <;> assumption) | (constructor <;> omega))
section
variable {P : Program} {w : World} {K : PySem.W.Frag} {mg : Str → Option Value} {base : Heap}

def labP (S : Sty) (l : Lab) : PyData := .tuple [.str l.name, .str (S.row l.rank).name, .int l.letters, .int l.weight, .int l.x, .int l.y]
theorem pd_lab (S : Sty) (l : Lab) : PD K (labD K S l) (labP S l) := pd_tup rfl fun i d e h1 h2 => match i, h1, h2 with
  | 0, h1, h2 => by cases h1; cases h2; exact pd_S
  | 1, h1, h2 => by cases h1; cases h2; exact pd_S
  | 2, h1, h2 => by cases h1; cases h2; exact pd_I
  | 3, h1, h2 => by cases h1; cases h2; exact pd_I
  | 4, h1, h2 => by cases h1; cases h2; exact pd_I
  | 5, h1, h2 => by cases h1; cases h2; exact pd_I
  | _ + 6, h1, _ => by simp at h1
def toldP (S : Sty) (z : Int) (ls : List Lab) (o : Option Int) : PyData := .list ((toldL S z ls 50000 0 1 o).map (labP S))
def ToldNe (S : Sty) (z t : Int) (ls : List Lab) : Prop := SeqAt.shaped (toldP S z ls (some t)) = true ∧ SeqAt.shaped (toldP S z ls none) = true ∧ PyData.eqv (toldP S z ls (some t)) (toldP S z ls none) = false
theorem hid_labD {S : Sty} {l : Lab} : HidW dictW (labD K S l) := hid_tup dictW_nt fun d hd => by
  simp only [List.mem_cons, List.not_mem_nil, or_false] at hd
  rcases hd with rfl | rfl | rfl | rfl | rfl | rfl <;> exact hid_V
def R_in_order (K : PySem.W.Frag) : List Dt → Dt → Prop := fun ds d => ∃ S : Sty, ∃ ls : List Lab, ∃ ls2 : List Lab, S.Ok ∧ Ordd S ls ls2 ∧ ds = [dSty K S, labsD K S ls] ∧ d = labsD K S ls2
abbrev N_in_order : List Str := ["style", "labels", "known", "label", "key"]
theorem sc_in_order : FnScope N_in_order ["style", "labels"] (defScope s_in_order) := ⟨rfl, rfl, rfl, by decide +kernel, rfl, by decide +kernel, by decide +kernel⟩
theorem fn_in_order (T : Tx w K mg) : Fn0 P w K mg base 2 "in_order" ["style", "labels"] (spP (R_in_order K)) := by
  obtain ⟨fd, F⟩ := T.f_in_order
  have nd := sc_in_order.nd
  refine mk_fn T.g_in_order F.kp (fn_pure F sc_in_order (by rintro _ _ ⟨S, ls, ls2, c0, c1, rfl, rfl⟩; rfl) (fun cdv A outer s H E hr => ?_)) (F.bindsN fun _ _ _ _ _ _ us hl => match us, hl with | [_, _], _ => rfl)
  have hu := hu_of hr
  have hu65 := hu65 hr
  refine ⟨_, (pss_cons (ps_set (i := 2) nd rfl (Or.inr rfl) (pe_dcK (own := [("label", 3)]) nd (pi_tupK K (pv 1)) (blkOk_by (N := N_in_order) (sc := defScope s_in_order) (by decide +kernel)) (fun _ _ _ _ _ => (pg_name (i := 3) nd rfl (Or.inl rfl))) (fun _ _ _ _ _ => (pe_ix (ixK_tup K) (pv 3) pe_int (fun _ _ => rfl))) (fun _ _ _ _ _ => (pv 3)))) (pss_one (ps_ret (pe_bt (crK_tuple K) T.b_tuple (by decide +kernel) (pa_cons (pe_lc (own := [("key", 4)]) (by rfl) nd (pi_listK K (pe_sortST K T.b_sorted T.b_set (pe_lc (own := [("label", 3)]) (by rfl) nd (pi_tupK K (pv 1)) (blkOk_by (N := N_in_order) (sc := defScope s_in_order) (by decide +kernel)) (fun _ _ _ _ _ => (pg_name (i := 3) nd rfl (Or.inl rfl))) (fun _ _ _ _ _ => pts_nil) (fun _ _ _ _ _ => (pe_callF (fn_order_key T) hr (pa_cons (pv 0) (pa_cons (pv 3) pa_nil))))))) (blkOk_by (N := N_in_order) (sc := defScope s_in_order) (by decide +kernel)) (fun _ _ _ _ _ => (pg_name (i := 4) nd rfl (Or.inl rfl))) (fun _ _ _ _ _ => pts_nil) (fun _ _ _ _ _ => (pe_dgetF hu (pv 2) (pe_ix (ixK_tup K) (pv 4) pe_int (fun _ _ => rfl)) (fun _ _ => rfl)))) pa_nil))))), ?_⟩
  rintro _ _ ⟨S, ls, ls2, c0, c1, rfl, rfl⟩
  obtain ⟨hf, ⟨r, hr, hrk⟩, hp, hlt⟩ := c1
  have hin : ∀ l ∈ ls, S.In l.rank := fun l hl => by rw [(hrk l hl).1]; exact hr
  have hnd : (ls.map Lab.name).Nodup := ordd_nodup hp hlt
  refine sd_seq (sd_set (ed_dc ls (labD K S) Lab.name (labD K S) (wd_tup ed_var) (by omega) (by decide) (fun l _ => hid_labD) hnd fun l hl => ⟨_, gd_name, ed_ixT ed_var ed_c rfl, ed_var⟩)) (sd_ret ?_)
  refine ed_cb (eda_cons (ed_lc0 (K := K) ls2 (fun l => keyD K (keyOfL l)) (labD K S) (wd_is (wd_list (ed_sortST (ks := ls.map keyOfL) (ys := ls2.map keyOfL) (r := r) (w := 0) (ed_is (ed_lc0 (K := K) ls (labD K S) (fun l => keyD K (keyOfL l)) (wd_tup ed_var) (by omega) (by decide) (fun l _ => imm_key K _) fun l hl => ⟨_, gd_name, (ed_call (eda_cons ed_var (eda_cons ed_var eda_nil)) ⟨_, _, c0, hin l hl, rfl, rfl⟩)⟩) (by rw [List.map_map] <;> rfl)) (fun k hk => by
    obtain ⟨l, hl, rfl⟩ := List.mem_map.mp hk
    exact ⟨(hrk l hl).1, by show -l.weight = 0; rw [(hrk l hl).2]; rfl⟩) (hp.map _) (by unfold Asc; rw [List.map_map, List.map_map]; exact hlt) (by rw [List.length_map]; omega))) (by rw [List.map_map] <;> rfl)) (by rw [hp.length_eq]; omega) (by decide) (fun l _ => imm_lab K S l) fun l hl => ⟨_, gd_name, (ed_dgetN ed_var (ed_ixT ed_var ed_c rfl) (by rw [List.map_map]; exact hnd) (List.mem_map.mpr ⟨l, hp.mem_iff.mp hl, rfl⟩))⟩) eda_nil) cd_tupL

/-! shows_cut#W -/
def R_shows_cut_W (K : PySem.W.Frag) : List Dt → Dt → Prop := fun ds d => ∃ S : Sty, ∃ z : Int, ∃ t : Int, ∃ e : Nat, (S.Ok) ∧ (0 ≤ z ∧ z ≤ S.last) ∧ (0 ≤ t ∧ t ≤ 99999) ∧ (firstOwn S z = some e) ∧ ds = [dSty K S, dI z, dI t, dTup K [dS "whole"]] ∧ d = dB false
abbrev N_shows_cut_W : List Str := ["style", "zoom", "strip", "value", "view", "labels"]
theorem sc_shows_cut_W : FnScope N_shows_cut_W ["style", "zoom", "strip", "value"] (defScope s_shows_cut) := ⟨rfl, rfl, rfl, by decide +kernel, rfl, by decide +kernel, by decide +kernel⟩
theorem fn_shows_cut_W (T : Tx w K mg) : Fn0 P w K mg base 9 "shows_cut" ["style", "zoom", "strip", "value"] (spP (R_shows_cut_W K)) := by
  obtain ⟨fd, F⟩ := T.f_shows_cut
  have nd := sc_shows_cut_W.nd
  refine mk_fn T.g_shows_cut F.kp (fn_pure F sc_shows_cut_W (by rintro _ _ ⟨S, z, t, e, c0, c1, c2, c3, rfl, rfl⟩; rfl) (fun cdv A outer s H E hr => ?_)) (F.bindsN fun _ _ _ _ _ _ us hl => match us, hl with | [_, _, _, _], _ => rfl)
  have hu := hu_of hr
  have hu65 := hu65 hr
  refine ⟨_, (pss_cons (ps_expr (pe_methF (fn_Style_check_zoom T) T.cl_Style (hr.mono (by decide)) (pv 0) (pa_cons (pv 1) pa_nil))) (pss_cons (ps_expr (pe_callF (fn_check_strip T) (hr.mono (by decide)) (pa_cons (pv 2) pa_nil))) (pss_cons (ps_if (PW.pt (pw_or (pt_not (pt_val (pe_callF (fn_is_tuple T) (hr.mono (by decide)) (pa_cons (pv 3) (pa_cons pe_int (pa_cons (pe_gint T.c_TRIPLE) pa_nil)))))) (pw_or1 (pt_cmpR op_eq (pe_bi (crK_len K) T.b_len (by decide +kernel) (pa_cons (pv 3) pa_nil)) (pe_gint T.c_PAIR) (nomark _))))) (pss_one (ps_ret pe_bl)) pss_nil) (pss_cons (ps_set (i := 4) nd rfl (Or.inl rfl) (pe_makeF (fn_View_init T) (hr.mono (by decide)) (pa_cons (pv 0) (pa_cons (pv 1) pa_nil)))) (pss_cons (ps_if (pt_cmpR op_eq (pe_bi (crK_len K) T.b_len (by decide +kernel) (pa_cons (pv 3) pa_nil)) pe_int (nomark _)) (pss_one (ps_ret (pe_and (pe_callF (fn_is_word T) (hr.mono (by decide)) (pa_cons (pe_ix (ixK_tup K) (pv 3) pe_int (fun _ _ => rfl)) (pa_cons (pe_gstr T.c_WHOLE) pa_nil))) (pe_and (pe_cmp (pc_isN (pe_callF (fn_endless T) (hr.mono (by decide)) (pa_cons (pv 4) pa_nil)))) (pe_one (pe_cmpR op_le (pe_ix (ixK_tup K) (pe_callF (fn_least_strip T) hr (pa_cons (pv 0) (pa_cons (pv 1) pa_nil))) pe_int (fun _ _ => rfl)) (pv 2) (nomark _))))))) pss_nil) (pss_cons (ps_if (PW.pt (pw_or (pt_not (pt_val (pe_callF (fn_is_word T) (hr.mono (by decide)) (pa_cons (pe_ix (ixK_tup K) (pv 3) pe_int (fun _ _ => rfl)) (pa_cons (pe_gstr T.c_CUT) pa_nil))))) (pw_or (pt_not (pt_val (pe_callF (fn_is_tile T) (hr.mono (by decide)) (pa_cons (pe_ix (ixK_tup K) (pv 3) pe_int (fun _ _ => rfl)) pa_nil)))) (pw_or1 (pt_not (pt_val (pe_callF (fn_are_labels T) (hr.mono (by decide)) (pa_cons (pv 0) (pa_cons (pe_ix (ixK_tup K) (pv 3) pe_int (fun _ _ => rfl)) pa_nil))))))))) (pss_one (ps_ret pe_bl)) pss_nil) (pss_cons (ps_set (i := 5) nd rfl (Or.inl rfl) (pe_callF (fn_in_order T) (hr.mono (by decide)) (pa_cons (pv 0) (pa_cons (pe_ix (ixK_tup K) (pv 3) pe_int (fun _ _ => rfl)) pa_nil)))) (pss_one (ps_ret (pe_cmpR (opK_neD K hu65) (pe_callF (fn_labels_told T) (hr.mono (by decide)) (pa_cons (pv 4) (pa_cons (pv 5) (pa_cons (pe_ix (ixK_tup K) (pv 3) pe_int (fun _ _ => rfl)) (pa_cons (pv 2) pa_nil))))) (pe_callF (fn_labels_told T) (hr.mono (by decide)) (pa_cons (pv 4) (pa_cons (pv 5) (pa_cons (pe_ix (ixK_tup K) (pv 3) pe_int (fun _ _ => rfl)) (pa_cons pe_non pa_nil))))) (nomark _))))))))))), ?_⟩
  rintro _ _ ⟨S, z, t, e, c0, c1, c2, c3, rfl, rfl⟩
  refine sd_seq (sd_drop (ed_meth ed_var (md_Style T) (eda_cons ed_var eda_nil) ⟨⟨_, _, c1, rfl⟩, rfl⟩)) ?_
  refine sd_seq (sd_drop (ed_call (eda_cons ed_var eda_nil) ⟨⟨_, c2, rfl⟩, rfl⟩)) ?_
  refine sd_ifR (td_or (td_not (td_B (ed_call (eda_cons ed_var (eda_cons ed_c (eda_cons ed_c eda_nil))) ⟨_, _, _, rfl, rfl⟩))) fun _ => (td_test (ed_eqI (ed_cb (eda_cons ed_var eda_nil) cd_lenT) ed_c))) (fun hb => absurd hb (by simp)) (fun _ => ?_)
  refine sd_seq (sd_set (ed_view ed_var ed_var c0 c1)) ?_
  refine sd_ifR (td_test (ed_eqI (ed_cb (eda_cons ed_var eda_nil) cd_lenT) ed_c)) (fun _ => sd_ret ?_) (fun hb => absurd hb (by simp))
  exact ed_is (ed_andV (ed_call (eda_cons (ed_ixT ed_var ed_c rfl) (eda_cons ed_c eda_nil)) ⟨_, _, rfl, rfl⟩) fun _ => (ed_andV (b := false) (ed_isSome (ed_call (eda_cons ed_var eda_nil) ⟨_, _, _, c0, c3, rfl, rfl⟩) (notN_V (by simp))) fun h => absurd h (by decide))) (by simp)

/-! shows_cut#C -/
def R_shows_cut_C (K : PySem.W.Frag) : List Dt → Dt → Prop := fun ds d => ∃ S : Sty, ∃ z : Int, ∃ t : Int, ∃ ls : List Lab, ∃ ls2 : List Lab, (S.Ok) ∧ (0 ≤ z ∧ z ≤ S.last) ∧ (0 ≤ t ∧ t ≤ 99999) ∧ (Sheet S ls) ∧ (Ordd S ls ls2) ∧ (∀ l ∈ ls2, LabOk S z l) ∧ (ToldNe S z t ls2) ∧ ds = [dSty K S, dI z, dI t, dTup K [dS "cut", tileD K 50000 0 1, labsD K S ls]] ∧ d = dB true
abbrev N_shows_cut_C : List Str := ["style", "zoom", "strip", "value", "view", "labels"]
theorem sc_shows_cut_C : FnScope N_shows_cut_C ["style", "zoom", "strip", "value"] (defScope s_shows_cut) := ⟨rfl, rfl, rfl, by decide +kernel, rfl, by decide +kernel, by decide +kernel⟩
theorem fn_shows_cut_C (T : Tx w K mg) : Fn0 P w K mg base 9 "shows_cut" ["style", "zoom", "strip", "value"] (spP (R_shows_cut_C K)) := by
  obtain ⟨fd, F⟩ := T.f_shows_cut
  have nd := sc_shows_cut_C.nd
  refine mk_fn T.g_shows_cut F.kp (fn_pure F sc_shows_cut_C (by rintro _ _ ⟨S, z, t, ls, ls2, c0, c1, c2, c3, c4, c5, c6, rfl, rfl⟩; rfl) (fun cdv A outer s H E hr => ?_)) (F.bindsN fun _ _ _ _ _ _ us hl => match us, hl with | [_, _, _, _], _ => rfl)
  have hu := hu_of hr
  have hu65 := hu65 hr
  refine ⟨_, (pss_cons (ps_expr (pe_methF (fn_Style_check_zoom T) T.cl_Style (hr.mono (by decide)) (pv 0) (pa_cons (pv 1) pa_nil))) (pss_cons (ps_expr (pe_callF (fn_check_strip T) (hr.mono (by decide)) (pa_cons (pv 2) pa_nil))) (pss_cons (ps_if (PW.pt (pw_or (pt_not (pt_val (pe_callF (fn_is_tuple T) (hr.mono (by decide)) (pa_cons (pv 3) (pa_cons pe_int (pa_cons (pe_gint T.c_TRIPLE) pa_nil)))))) (pw_or1 (pt_cmpR op_eq (pe_bi (crK_len K) T.b_len (by decide +kernel) (pa_cons (pv 3) pa_nil)) (pe_gint T.c_PAIR) (nomark _))))) (pss_one (ps_ret pe_bl)) pss_nil) (pss_cons (ps_set (i := 4) nd rfl (Or.inl rfl) (pe_makeF (fn_View_init T) (hr.mono (by decide)) (pa_cons (pv 0) (pa_cons (pv 1) pa_nil)))) (pss_cons (ps_if (pt_cmpR op_eq (pe_bi (crK_len K) T.b_len (by decide +kernel) (pa_cons (pv 3) pa_nil)) pe_int (nomark _)) (pss_one (ps_ret (pe_and (pe_callF (fn_is_word T) (hr.mono (by decide)) (pa_cons (pe_ix (ixK_tup K) (pv 3) pe_int (fun _ _ => rfl)) (pa_cons (pe_gstr T.c_WHOLE) pa_nil))) (pe_and (pe_cmp (pc_isN (pe_callF (fn_endless T) (hr.mono (by decide)) (pa_cons (pv 4) pa_nil)))) (pe_one (pe_cmpR op_le (pe_ix (ixK_tup K) (pe_callF (fn_least_strip T) hr (pa_cons (pv 0) (pa_cons (pv 1) pa_nil))) pe_int (fun _ _ => rfl)) (pv 2) (nomark _))))))) pss_nil) (pss_cons (ps_if (PW.pt (pw_or (pt_not (pt_val (pe_callF (fn_is_word T) (hr.mono (by decide)) (pa_cons (pe_ix (ixK_tup K) (pv 3) pe_int (fun _ _ => rfl)) (pa_cons (pe_gstr T.c_CUT) pa_nil))))) (pw_or (pt_not (pt_val (pe_callF (fn_is_tile T) (hr.mono (by decide)) (pa_cons (pe_ix (ixK_tup K) (pv 3) pe_int (fun _ _ => rfl)) pa_nil)))) (pw_or1 (pt_not (pt_val (pe_callF (fn_are_labels T) (hr.mono (by decide)) (pa_cons (pv 0) (pa_cons (pe_ix (ixK_tup K) (pv 3) pe_int (fun _ _ => rfl)) pa_nil))))))))) (pss_one (ps_ret pe_bl)) pss_nil) (pss_cons (ps_set (i := 5) nd rfl (Or.inl rfl) (pe_callF (fn_in_order T) (hr.mono (by decide)) (pa_cons (pv 0) (pa_cons (pe_ix (ixK_tup K) (pv 3) pe_int (fun _ _ => rfl)) pa_nil)))) (pss_one (ps_ret (pe_cmpR (opK_neD K hu65) (pe_callF (fn_labels_told T) (hr.mono (by decide)) (pa_cons (pv 4) (pa_cons (pv 5) (pa_cons (pe_ix (ixK_tup K) (pv 3) pe_int (fun _ _ => rfl)) (pa_cons (pv 2) pa_nil))))) (pe_callF (fn_labels_told T) (hr.mono (by decide)) (pa_cons (pv 4) (pa_cons (pv 5) (pa_cons (pe_ix (ixK_tup K) (pv 3) pe_int (fun _ _ => rfl)) (pa_cons pe_non pa_nil))))) (nomark _))))))))))), ?_⟩
  rintro _ _ ⟨S, z, t, ls, ls2, c0, c1, c2, c3, c4, c5, c6, rfl, rfl⟩
  refine sd_seq (sd_drop (ed_meth ed_var (md_Style T) (eda_cons ed_var eda_nil) ⟨⟨_, _, c1, rfl⟩, rfl⟩)) ?_
  refine sd_seq (sd_drop (ed_call (eda_cons ed_var eda_nil) ⟨⟨_, c2, rfl⟩, rfl⟩)) ?_
  refine sd_ifR (td_or (td_not (td_B (ed_call (eda_cons ed_var (eda_cons ed_c (eda_cons ed_c eda_nil))) ⟨_, _, _, rfl, rfl⟩))) fun _ => (td_test (ed_eqI (ed_cb (eda_cons ed_var eda_nil) cd_lenT) ed_c))) (fun hb => absurd hb (by simp)) (fun _ => ?_)
  refine sd_seq (sd_set (ed_view ed_var ed_var c0 c1)) ?_
  refine sd_ifR (td_test (ed_eqI (ed_cb (eda_cons ed_var eda_nil) cd_lenT) ed_c)) (fun hb => absurd hb (by simp)) (fun _ => ?_)
  refine sd_ifR (td_or (td_not (td_B (ed_call (eda_cons (ed_ixT ed_var ed_c rfl) (eda_cons ed_c eda_nil)) ⟨_, _, rfl, rfl⟩))) fun _ => (td_or (td_not (td_B (ed_call (eda_cons (ed_ixT ed_var ed_c rfl) eda_nil) ⟨_, _, _, rfl, rfl⟩))) fun _ => (td_not (td_B (ed_call (eda_cons ed_var (eda_cons (ed_ixT ed_var ed_c rfl) eda_nil)) ⟨_, _, c0, c3, rfl, rfl⟩))))) (fun hb => absurd hb (by simp)) (fun _ => ?_)
  refine sd_seq (sd_set (ed_call (eda_cons ed_var (eda_cons (ed_ixT ed_var ed_c rfl) eda_nil)) ⟨_, _, _, c0, c4, rfl, rfl⟩)) (sd_ret ?_)
  have h30 : ls2.length ≤ 30 := by rw [c4.pm.length_eq]; exact c4.few
  refine ed_is (ed_neD (ed_call (eda_cons ed_var (eda_cons ed_var (eda_cons (ed_ixT ed_var ed_c rfl) (eda_cons ed_var eda_nil)))) ⟨S, z, _, _, _, _, some t, ⟨c0, c5⟩, h30, rfl, rfl⟩) (ed_call (eda_cons ed_var (eda_cons ed_var (eda_cons (ed_ixT ed_var ed_c rfl) (eda_cons ed_c eda_nil)))) ⟨S, z, _, _, _, _, none, ⟨c0, c5⟩, h30, rfl, rfl⟩) (pd_lstM _ fun l => pd_lab S l) (pd_lstM _ fun l => pd_lab S l) c6.1 c6.2.1) ?_
  have h6 := c6.2.2
  unfold toldP at h6
  rw [h6]
  rfl

end
end Sl
/-! Sl40: the plain law: the chain of labels of one class, what is shown of it. -/
namespace Sl
open PySem PySem.Spec PyProof.Rows L2
theorem nameN_lt : ∀ a b : Nat, a ≤ 30 → b ≤ 30 → a < b → (nameN a).cps.toList < (nameN b).cps.toList := fun a b ha hb h => by
  have key : ∀ a : Fin 31, ∀ b : Fin 31, a.val < b.val → (nameN a.val).cps.toList < (nameN b.val).cps.toList := by decide +kernel
  exact key ⟨a, by omega⟩ ⟨b, by omega⟩ h
theorem nameN_ok : ∀ a : Nat, a ≤ 30 → IsName (nameN a) := fun a ha => by
  have key : ∀ a : Fin 31, (decide (1 ≤ (nameN a.val).length) && (decide ((nameN a.val).length ≤ 12) && (nameN a.val).cps.toList.all fun c => decide (97 ≤ c) && decide (c ≤ 122))) = true := by decide +kernel
  exact isName_of (key ⟨a, by omega⟩)
theorem nameN_ne {a b : Nat} (ha : a ≤ 30) (hb : b ≤ 30) (h : a ≠ b) : nameN a ≠ nameN b := fun e => by
  rcases Nat.lt_or_gt_of_ne h with h | h
  · have := nameN_lt a b ha hb h
    rw [e] at this
    exact List.lt_irrefl _ this
  · have := nameN_lt b a hb ha h
    rw [e] at this
    exact List.lt_irrefl _ this
section
variable {S : Sty} {z t : Int} {e n k m : Nat}
theorem px_bd16 (h : S.Ok) (hz : 0 ≤ z ∧ z ≤ S.last) : 1 ≤ px S z ∧ px S z ≤ 16 := by
  have h4 := h.z4
  unfold px
  obtain ⟨n, hn⟩ : ∃ n : Nat, S.last - z = (n : Int) := ⟨(S.last - z).toNat, by omega⟩
  have hn4 : n ≤ 4 := by omega
  rw [hn]
  rcases n with _ | _ | _ | _ | _ | n
  · decide
  · decide
  · decide
  · decide
  · decide
  · omega
theorem hh_bd (h : S.Ok) (hz : 0 ≤ z ∧ z ≤ S.last) {i : Int} (hi : S.In i) (hs : 0 < sz S z i) : 1 ≤ hh S z i ∧ hh S z i ≤ 144 := by
  have h1 := px_bd16 h hz
  have h2 := (hi.ok h).at_bd z
  have h2' : sz S z i ≤ 9 := h2.2
  unfold hh
  constructor
  · have := Int.mul_le_mul (show (1 : Int) ≤ sz S z i by omega) h1.1 (by decide) (by omega)
    simpa using this
  · have := Int.mul_le_mul h2' h1.2 (by omega) (by decide)
    simpa using this
theorem gr_bd (h : S.Ok) (hz : 0 ≤ z ∧ z ≤ S.last) {i : Int} (hi : S.In i) (hs : 0 < sz S z i) : 1 ≤ gr S z i ∧ gr S z i ≤ 1728 := by
  have h1 := hh_bd h hz hi hs
  have o := hi.ok h
  have l0 := o.l0
  have l9 := o.l9
  have m0 := o.m0
  have m3 := o.m3
  unfold gr hw
  constructor
  · have := Int.mul_le_mul (show (1 : Int) ≤ (S.row i).most by omega) h1.1 (by decide) (by omega)
    simpa using this
  · have := Int.mul_le_mul (show (S.row i).most ≤ 12 by omega) h1.2 (by omega) (by decide)
    simpa using this
theorem br_two (S : Sty) (z i : Int) : br S z i i = 2 * gr S z i := by
  unfold br
  omega
/-- the step of the chain -/
abbrev dl (S : Sty) (z : Int) (e : Nat) : Int := 2 * gr S z e - 1
theorem ca_x (S : Sty) (z : Int) (e m : Nat) (x y : Int) (i : Nat) : (chainAt S z e m x y i).x = x - gr S z e + 1 - (i : Int) * dl S z e := by
  show x - gr S z e + 1 - (i : Int) * (br S z e e - 1) = _
  rw [br_two]
theorem mul_gap {i j : Nat} {d : Int} (h : i < j) (hd : 0 ≤ d) : (i : Int) * d + d ≤ (j : Int) * d := by
  have h1 : ((i : Int) + 1) * d ≤ (j : Int) * d := Int.mul_le_mul_of_nonneg_right (by omega) hd
  rw [Int.add_mul, Int.one_mul] at h1
  exact h1
theorem mul_gap2 {i j : Nat} {d : Int} (h : i + 1 < j) (hd : 0 ≤ d) : (i : Int) * d + 2 * d ≤ (j : Int) * d := by
  have h1 : ((i : Int) + 2) * d ≤ (j : Int) * d := Int.mul_le_mul_of_nonneg_right (by omega) hd
  rw [Int.add_mul] at h1
  exact h1
structure OwnC (S : Sty) (z : Int) (e : Nat) : Prop where
  ok : S.Ok
  hz : 0 ≤ z ∧ z ≤ S.last
  fo : firstOwn S z = some e
section
variable (w : OwnC S z e)
include w
theorem OwnC.inn : S.In (e : Int) := (firstOwn_in w.fo).1
theorem OwnC.pos : 0 < sz S z e := (firstOwn_in w.fo).2.1
theorem OwnC.gb : 1 ≤ gr S z e ∧ gr S z e ≤ 1728 := gr_bd w.ok w.hz w.inn w.pos
theorem OwnC.hb : 1 ≤ hh S z e := (hh_bd w.ok w.hz w.inn w.pos).1
theorem OwnC.cmp : S.compete e e = true := by
  have := (firstOwn_in w.fo).2.2
  unfold canClash at this
  exact (Bool.and_eq_true_iff.mp this).1
theorem OwnC.dst : S.dist e e ≤ dl S z e := by
  have := (firstOwn_in w.fo).2.2
  unfold canClash canOver at this
  have h := of_decide_eq_true (Bool.and_eq_true_iff.mp this).2
  rw [br_two] at h
  exact h
theorem OwnC.labok {m i : Nat} {x y : Int} : LabOk S z (chainAt S z e m x y i) := by
  have o := w.inn.ok w.ok
  have l0 := o.l0
  have l9 := o.l9
  have m0 := o.m0
  have m3 := o.m3
  exact ⟨w.inn, w.pos, by show 0 ≤ (S.row e).most; omega, by show (S.row e).most ≤ 100; omega⟩
/-- neighbours clash, others do not -/
theorem OwnC.clash {m i j : Nat} {x y : Int} (h : i < j) : clashL S z (chainAt S z e m x y i) (chainAt S z e m x y j) = decide (j = i + 1) := by
  have hg := w.gb
  have hdl : dl S z e = 2 * gr S z e - 1 := rfl
  have hb := w.hb
  unfold clashL overL
  rw [show (chainAt S z e m x y i).rank = (e : Int) from rfl, show (chainAt S z e m x y j).rank = (e : Int) from rfl, w.cmp, Bool.true_and, ca_x, ca_x]
  rw [show (chainAt S z e m x y i).letters = (S.row e).most from rfl, show (chainAt S z e m x y j).letters = (S.row e).most from rfl, show (chainAt S z e m x y i).y = y from rfl, show (chainAt S z e m x y j).y = y from rfl, Int.sub_self]
  rw [show hw S z e (S.row e).most = gr S z e from rfl]
  have hy : decide (iabs 0 < hh S z e + hh S z e) = true := decide_eq_true (by unfold iabs; rw [if_neg (by omega)]; omega)
  rw [hy, Bool.and_true]
  have e1 : x - gr S z e + 1 - (i : Int) * dl S z e - (x - gr S z e + 1 - (j : Int) * dl S z e) = (j : Int) * dl S z e - (i : Int) * dl S z e := by omega
  rw [e1]
  by_cases hj : j = i + 1
  · subst hj
    have e2 : ((i + 1 : Nat) : Int) * dl S z e = (i : Int) * dl S z e + dl S z e := by
      rw [Int.natCast_add, Int.add_mul]
      simp
    rw [e2, decide_eq_true rfl]
    refine decide_eq_true ?_
    unfold iabs
    rw [if_neg (by omega)]
    omega
  · have := mul_gap2 (i := i) (j := j) (d := dl S z e) (by omega) (by omega)
    rw [decide_eq_false hj]
    refine decide_eq_false ?_
    unfold iabs
    rw [if_neg (by omega)]
    omega
theorem OwnC.clash' {m i j : Nat} {x y : Int} (h : i < j) : clashL S z (chainAt S z e m x y j) (chainAt S z e m x y i) = decide (j = i + 1) := by
  rw [← w.clash (m := m) (x := x) (y := y) h]
  have a1 : ∀ a b : Int, iabs (a - b) = iabs (b - a) := fun a b => by
    unfold iabs
    split <;> split <;> omega
  unfold clashL overL
  rw [a1, a1 (chainAt S z e m x y j).y]
  rfl
end
/-- the chain, the last one first -/
def revC (S : Sty) (z : Int) (e k m : Nat) : List Lab := (List.range k).map fun q => chainAt S z e m 50000 0 (k - 1 - q)
theorem revC_eq (S : Sty) (z : Int) (e k m : Nat) : revC S z e k m = (chainL S z e k m 50000 0).reverse := by
  unfold revC chainL
  rw [← List.map_reverse]
  have h : (List.range k).reverse = (List.range k).map fun q => k - 1 - q := by
    apply List.ext_getElem?
    intro i
    by_cases hi : i < k
    · rw [List.getElem?_reverse (by simpa using hi), List.getElem?_map, List.length_range, List.getElem?_range (by omega), List.getElem?_range hi]
      rfl
    · rw [List.getElem?_eq_none (by simp; omega), List.getElem?_eq_none (by simp; omega)]
  rw [h, List.map_map]
  rfl
theorem look_rev (w : OwnC S z e) : ∀ j, j ≤ k → lookF S z [] ((revC S z e k m).take j) = ((List.range j).filter fun q => decide (q % 2 = 0)).map fun q => chainAt S z e m 50000 0 (k - 1 - q)
  | 0, _ => by simp [lookF]
  | j + 1, h => by
    have ih := look_rev w j (by omega)
    have hj : (revC S z e k m)[j]? = some (chainAt S z e m 50000 0 (k - 1 - j)) := by
      unfold revC
      rw [List.getElem?_map, List.getElem?_range (by omega)]
      rfl
    rw [lookF_next S z hj, ih, List.range_succ, List.filter_append, List.map_append]
    have hcl : ∀ q, q < j → clashL S z (chainAt S z e m 50000 0 (k - 1 - j)) (chainAt S z e m 50000 0 (k - 1 - q)) = decide (j = q + 1) := fun q hq => by
      rw [w.clash (show k - 1 - j < k - 1 - q by omega)]
      exact decide_eq_decide.mpr (by omega)
    by_cases hev : j % 2 = 0
    · rw [if_neg]
      · rw [List.filter_cons, if_pos (by simpa using hev)]
        rfl
      · intro hany
        obtain ⟨l, hl, hc⟩ := List.any_eq_true.mp hany
        obtain ⟨q, hq, rfl⟩ := List.mem_map.mp hl
        obtain ⟨hq1, hq2⟩ := List.mem_filter.mp hq
        have hq1' := List.mem_range.mp hq1
        rw [hcl q hq1'] at hc
        have := of_decide_eq_true hc
        have := of_decide_eq_true hq2
        omega
    · rw [if_pos]
      · rw [List.filter_cons, if_neg (by simpa using hev)]
        simp
      · refine List.any_eq_true.mpr ⟨chainAt S z e m 50000 0 (k - 1 - (j - 1)), List.mem_map.mpr ⟨j - 1, List.mem_filter.mpr ⟨List.mem_range.mpr (by omega), decide_eq_true (by omega)⟩, rfl⟩, ?_⟩
        rw [hcl (j - 1) (by omega)]
        exact decide_eq_true (by omega)
theorem revC_len (S : Sty) (z : Int) (e k m : Nat) : (revC S z e k m).length = k := by simp [revC]
theorem look_all (w : OwnC S z e) : lookF S z [] (revC S z e k m) = ((List.range k).filter fun q => decide (q % 2 = 0)).map fun q => chainAt S z e m 50000 0 (k - 1 - q) := by
  have := look_rev w (k := k) (m := m) k (Nat.le_refl _)
  rw [List.take_of_length_le (by rw [revC_len] <;> omega)] at this
  exact this
/-- only the first label meets the tile -/
theorem meet_at (w : OwnC S z e) {i : Nat} : meetL S z (chainAt S z e m 50000 0 i) 50000 0 1 = decide (i = 0) := by
  have hg := w.gb
  have hdl : dl S z e = 2 * gr S z e - 1 := rfl
  have hb := w.hb
  unfold meetL
  rw [ca_x, show (chainAt S z e m 50000 0 i).rank = (e : Int) from rfl, show (chainAt S z e m 50000 0 i).letters = (S.row e).most from rfl, show (chainAt S z e m 50000 0 i).y = 0 from rfl, show hw S z e (S.row e).most = gr S z e from rfl]
  have h3 : decide ((0 : Int) < 0 + hh S z e) = true := decide_eq_true (by omega)
  have h4 : decide ((0 : Int) - hh S z e < 0 + 1) = true := decide_eq_true (by omega)
  rw [h3, h4, Bool.and_true, Bool.and_true]
  cases i with
  | zero =>
    have h1 : decide ((50000 : Int) - gr S z e + 1 - ((0 : Nat) : Int) * dl S z e + gr S z e ≤ 50000) = false := decide_eq_false (by
      rw [show ((0 : Nat) : Int) = 0 from rfl, Int.zero_mul]
      omega)
    have h2 : decide ((50000 : Int) + 1 ≤ 50000 - gr S z e + 1 - ((0 : Nat) : Int) * dl S z e - gr S z e) = false := decide_eq_false (by
      rw [show ((0 : Nat) : Int) = 0 from rfl, Int.zero_mul]
      omega)
    rw [h1, h2]
    rfl
  | succ i =>
    have := mul_gap (i := 0) (j := i + 1) (d := dl S z e) (by omega) (by omega)
    rw [show ((0 : Nat) : Int) = 0 from rfl, Int.zero_mul] at this
    have h1 : decide ((50000 : Int) - gr S z e + 1 - ((i + 1 : Nat) : Int) * dl S z e + gr S z e ≤ 50000) = true := decide_eq_true (by omega)
    rw [h1]
    simp
theorem filt_zero {α : Type} (f : Nat → α) (p : α → Bool) (k : Nat) (hp : ∀ q, q < k → p (f q) = decide (k - 1 - q = 0)) : (((List.range k).filter fun q => decide (q % 2 = 0)).map f).filter p = if k % 2 = 1 then [f (k - 1)] else [] := by
  cases k with
  | zero => rfl
  | succ j =>
    rw [List.range_succ, List.filter_append, List.map_append, List.filter_append]
    have h1 : (((List.range j).filter fun q => decide (q % 2 = 0)).map f).filter p = [] := by
      refine List.filter_eq_nil_iff.mpr fun a ha => ?_
      obtain ⟨q, hq, rfl⟩ := List.mem_map.mp ha
      have := List.mem_range.mp (List.mem_filter.mp hq).1
      rw [hp q (by omega), decide_eq_true_iff]
      omega
    rw [h1, List.nil_append]
    by_cases hj : j % 2 = 0
    · rw [if_pos (by omega), List.filter_cons, if_pos (by simpa using hj)]
      show List.filter p [f j] = [f j]
      rw [List.filter_cons, if_pos (by rw [hp j (by omega)]; simp)]
      rfl
    · rw [if_neg (by omega), List.filter_cons, if_neg (by simpa using hj)]
      rfl
theorem told_rev (w : OwnC S z e) : (lookF S z [] (revC S z e k m)).filter (fun l => meetL S z l 50000 0 1) = if k % 2 = 1 then [chainAt S z e m 50000 0 0] else [] := by
  rw [look_all w, filt_zero]
  · split
    · congr 2
      omega
    · rfl
  · intro q hq
    rw [meet_at w]
/-- the strip leaves the last one away -/
theorem known_at (w : OwnC S z e) (b : Beyond S z t e n) (ht : 0 ≤ t) {i : Nat} (hi : i ≤ n) : knownL 50000 0 1 (some t) (chainAt S z e m 50000 0 i) = decide (i < n) := by
  have hg := w.gb
  have hdl : dl S z e = 2 * gr S z e - 1 := rfl
  have hb1 : ∀ i : Nat, i < n → gr S z e - 1 + (i : Int) * dl S z e ≤ t := fun i hi => by
    have := b.1 i hi
    rw [br_two] at this
    exact this
  have hb2 : t < gr S z e - 1 + (n : Int) * dl S z e := by
    have := b.2.1
    rw [br_two] at this
    exact this
  show liesL _ _ _ _ _ = _
  unfold liesL
  rw [ca_x, show (chainAt S z e m 50000 0 i).y = 0 from rfl]
  have h0 : 0 ≤ (i : Int) * dl S z e := Int.mul_nonneg (by omega) (by omega)
  have h2 : decide ((50000 : Int) - gr S z e + 1 - (i : Int) * dl S z e ≤ 50000 + 1 + t) = true := decide_eq_true (by omega)
  have h3 : decide ((0 : Int) - t ≤ 0) = true := decide_eq_true (by omega)
  have h4 : decide ((0 : Int) ≤ 0 + 1 + t) = true := decide_eq_true (by omega)
  rw [h2, h3, h4]
  by_cases hc : i < n
  · have := hb1 i hc
    have h1 : decide ((50000 : Int) - t ≤ 50000 - gr S z e + 1 - (i : Int) * dl S z e) = true := decide_eq_true (by omega)
    rw [h1, decide_eq_true hc]
    rfl
  · have hin : i = n := by omega
    subst hin
    have h1 : decide ((50000 : Int) - t ≤ 50000 - gr S z e + 1 - (i : Int) * dl S z e) = false := decide_eq_false (by omega)
    rw [h1, decide_eq_false hc]
    rfl
theorem chain_known (w : OwnC S z e) (b : Beyond S z t e n) (ht : 0 ≤ t) : (chainL S z e (n + 1) m 50000 0).filter (knownL 50000 0 1 (some t)) = chainL S z e n m 50000 0 := by
  rw [chainL_next, List.filter_append]
  have h1 : (chainL S z e n m 50000 0).filter (knownL 50000 0 1 (some t)) = chainL S z e n m 50000 0 := List.filter_eq_self.mpr fun l hl => by
    unfold chainL at hl
    obtain ⟨i, hi, rfl⟩ := List.mem_map.mp hl
    have := List.mem_range.mp hi
    rw [known_at w b ht (by omega)]
    exact decide_eq_true this
  rw [h1, List.filter_cons, if_neg (by rw [known_at w b ht (Nat.le_refl _)]; simp)]
  simp
theorem known_none (ls : List Lab) : ls.filter (knownL 50000 0 1 none) = ls := List.filter_eq_self.mpr fun _ _ => rfl
theorem rev_known (w : OwnC S z e) (b : Beyond S z t e n) (ht : 0 ≤ t) : (revC S z e (n + 1) m).filter (knownL 50000 0 1 (some t)) = revC S z e n m := by
  rw [revC_eq, List.filter_reverse, chain_known w b ht, ← revC_eq]
/-- the chain is a sheet -/
theorem chain_sheet (w : OwnC S z e) (b : Beyond S z t e n) (ht : t ≤ 99999) : Sheet S (chainL S z e (n + 1) (n + 1) 50000 0) := by
  have hg := w.gb
  have hdl : dl S z e = 2 * gr S z e - 1 := rfl
  have hd := w.dst
  have h30 := b.2.2
  have hb1 : ∀ i : Nat, i < n → gr S z e - 1 + (i : Int) * dl S z e ≤ t := fun i hi => by
    have := b.1 i hi
    rw [br_two] at this
    exact this
  have o := w.inn.ok w.ok
  refine ⟨by rw [chainL_len]; exact h30, fun i l hl => ?_⟩
  have hi : i < n + 1 := by
    have := (List.getElem?_eq_some_iff.mp hl).1
    rw [chainL_len] at this
    exact this
  have el : l = chainAt S z e (n + 1) 50000 0 i := by
    unfold chainL at hl
    rw [List.getElem?_map, List.getElem?_range hi] at hl
    exact (Option.some.inj hl).symm
  subst el
  refine ⟨⟨nameN_ok _ (by omega), w.inn, ?_⟩, fun o' ho => ?_⟩
  · have h0 : 0 ≤ (i : Int) * dl S z e := Int.mul_nonneg (by omega) (by omega)
    have hx : (i : Int) * dl S z e ≤ 99999 + dl S z e := by
      cases i with
      | zero =>
        rw [show ((0 : Nat) : Int) = 0 from rfl, Int.zero_mul]
        omega
      | succ i =>
        have := hb1 i (by omega)
        have e2 : ((i + 1 : Nat) : Int) * dl S z e = (i : Int) * dl S z e + dl S z e := by
          rw [Int.natCast_add, Int.add_mul]
          simp
        rw [e2]
        omega
    have m0 := o.m0
    simp only [Bool.and_eq_true, decide_eq_true_eq]
    refine ⟨⟨m0, Int.le_refl _⟩, ⟨Int.le_refl 0, by show (0 : Int) ≤ 9; decide⟩, ⟨?_, ?_⟩, by show (-99999 : Int) ≤ 0; decide, by show (0 : Int) ≤ 99999; decide⟩
    · rw [ca_x]
      omega
    · rw [ca_x]
      omega
  · obtain ⟨j, hj⟩ := List.getElem?_of_mem ho
    have hji : j < i := by
      have := (List.getElem?_eq_some_iff.mp hj).1
      rw [List.length_take] at this
      omega
    rw [List.getElem?_take_of_lt hji] at hj
    have eo : o' = chainAt S z e (n + 1) 50000 0 j := by
      unfold chainL at hj
      rw [List.getElem?_map, List.getElem?_range (by omega)] at hj
      exact (Option.some.inj hj).symm
    subst eo
    refine ⟨w.inn, nameN_ne (by omega) (by omega) (by omega), ?_⟩
    show S.dist e e ≤ gapL _ _
    have hgap := mul_gap (i := j) (j := i) (d := dl S z e) hji (by omega)
    unfold gapL
    rw [ca_x, ca_x, show (chainAt S z e (n + 1) 50000 0 j).y = 0 from rfl, show (chainAt S z e (n + 1) 50000 0 i).y = 0 from rfl]
    have e1 : (50000 : Int) - gr S z e + 1 - (j : Int) * dl S z e - (50000 - gr S z e + 1 - (i : Int) * dl S z e) = (i : Int) * dl S z e - (j : Int) * dl S z e := by omega
    rw [e1]
    have h0 : iabs ((0 : Int) - 0) = 0 := rfl
    rw [h0]
    unfold iabs
    rw [if_neg (show ¬ (i : Int) * dl S z e - (j : Int) * dl S z e < 0 by omega)]
    rw [if_pos (by omega)]
    omega
theorem chain_ordd (w : OwnC S z e) (hk : k ≤ m) (hm : m ≤ 30) : Ordd S (chainL S z e k m 50000 0) (revC S z e k m) where
  few := by rw [chainL_len]; omega
  rk := ⟨e, w.inn, fun l hl => by
    unfold chainL at hl
    obtain ⟨i, _, rfl⟩ := List.mem_map.mp hl
    exact ⟨rfl, rfl⟩⟩
  pm := by
    rw [revC_eq]
    exact List.reverse_perm _
  lt := by
    unfold revC
    rw [List.map_map, List.pairwise_map]
    refine List.Pairwise.imp_of_mem (R := fun a b => a < b) (fun {a b} ha hb h => ?_) List.pairwise_lt_range
    have ha := List.mem_range.mp ha
    have hb := List.mem_range.mp hb
    exact nameN_lt (m - (k - 1 - a)) (m - (k - 1 - b)) (by omega) (by omega) (by omega)
theorem chain_labok (w : OwnC S z e) : ∀ l ∈ chainL S z e k m 50000 0, LabOk S z l := fun l hl => by
  unfold chainL at hl
  obtain ⟨i, _, rfl⟩ := List.mem_map.mp hl
  exact w.labok
theorem rev_labok (w : OwnC S z e) : ∀ l ∈ revC S z e k m, LabOk S z l := fun l hl => by
  unfold revC at hl
  obtain ⟨i, _, rfl⟩ := List.mem_map.mp hl
  exact w.labok
/-- the names shown -/
def shownN (S : Sty) (z : Int) (e k m : Nat) : List Str := (lookF S z [] (revC S z e k m)).map Lab.name
theorem shown_names (w : OwnC S z e) (hk : k ≤ m) (hm : m ≤ 30) : NamesOf (shownN S z e k m) (lookF S z [] (revC S z e k m)) := by
  refine ⟨List.Perm.refl _, ?_⟩
  unfold Asc shownN
  rw [List.map_map, look_all w, List.map_map, List.pairwise_map]
  refine List.Pairwise.imp_of_mem (R := fun a b => a < b) (fun {a b} ha hb h => ?_) (List.pairwise_lt_range.sublist List.filter_sublist)
  have ha := List.mem_range.mp (List.mem_filter.mp ha).1
  have hb := List.mem_range.mp (List.mem_filter.mp hb).1
  exact nameN_lt (m - (k - 1 - a)) (m - (k - 1 - b)) (by omega) (by omega) (by omega)
/-- the names of those that meet the tile: of the first label alone -/
theorem tiled_at (w : OwnC S z e) (hk : k ≤ m) (hm : m ≤ 30) {ls : List Lab} {o : Option Int} (hl : ls.filter (knownL 50000 0 1 o) = chainL S z e k m 50000 0) : tiledN S z ls 50000 0 1 o (shownN S z e k m) = if k % 2 = 1 then [nameN m] else [] := by
  unfold tiledN
  rw [hl]
  have hmt : ((chainL S z e k m 50000 0).filter fun l => meetM S z l 50000 0 1).map Lab.name = if 0 < k then [nameN m] else [] := by
    have : ∀ j, j ≤ k → ((chainL S z e j m 50000 0).filter fun l => meetM S z l 50000 0 1).map Lab.name = if 0 < j then [nameN m] else [] := fun j => by
      induction j with
      | zero => intro _; rfl
      | succ j ih =>
        intro hj
        rw [chainL_next, List.filter_append, List.map_append, ih (by omega), List.filter_cons, meetM_eq, meet_at w]
        by_cases h0 : j = 0
        · subst h0
          rfl
        · rw [if_pos (by omega), if_neg (by simpa using h0), if_pos (by omega)]
          rfl
    exact this k (Nat.le_refl _)
  rw [hmt]
  unfold shownN
  rw [look_all w, List.map_map]
  rw [filt_zero (fun q => ((Lab.name ∘ fun q => chainAt S z e m 50000 0 (k - 1 - q)) q))]
  · split
    · show [nameN (m - (k - 1 - (k - 1)))] = [nameN m]
      congr 2
      omega
    · rfl
  · intro q hq
    rw [if_pos (by omega)]
    show decide (nameN (m - (k - 1 - q)) ∈ [nameN m]) = _
    refine decide_eq_decide.mpr ?_
    rw [List.mem_singleton]
    constructor
    · intro h
      by_cases hc : k - 1 - q = 0
      · exact hc
      · exact absurd h (nameN_ne (by omega) (by omega) (by omega))
    · intro h
      rw [h]
      rfl
theorem told_ne (w : OwnC S z e) (b : Beyond S z t e n) (ht : 0 ≤ t) : ToldNe S z t (revC S z e (n + 1) (n + 1)) := by
  have hn := nameN_ok (n + 1) b.2.2
  have hr := (w.inn.ok w.ok).nm
  have sh : ∀ c : Bool, SeqAt.shaped (.list ((if c then [chainAt S z e (n + 1) 50000 0 0] else []).map (labP S))) = true := fun c => by
    cases c with
    | false =>
      show SeqAt.shaped (.list []) = true
      decide
    | true =>
      have h1 := name_ok (show IsName (chainAt S z e (n + 1) 50000 0 0).name from hn)
      have h2 := name_ok (show IsName (S.row (chainAt S z e (n + 1) 50000 0 0).rank).name from hr)
      simp [SeqAt.shaped, labP, PyData.canLay0, PyData.canLayAll0, PyData.depth, PyData.depthAll, h1, h2]
  have t1 : toldP S z (revC S z e (n + 1) (n + 1)) (some t) = .list ((if n % 2 = 1 then [chainAt S z e (n + 1) 50000 0 0] else []).map (labP S)) := by
    unfold toldP toldL
    rw [rev_known w b ht, told_rev w]
  have t2 : toldP S z (revC S z e (n + 1) (n + 1)) none = .list ((if (n + 1) % 2 = 1 then [chainAt S z e (n + 1) 50000 0 0] else []).map (labP S)) := by
    unfold toldP toldL
    rw [known_none, told_rev w]
  unfold ToldNe
  rw [t1, t2]
  refine ⟨?_, ?_, ?_⟩
  · have := sh (decide (n % 2 = 1))
    simpa using this
  · have := sh (decide ((n + 1) % 2 = 1))
    simpa using this
  · by_cases h : n % 2 = 1
    · rw [if_pos h, if_neg (by omega)]
      rfl
    · rw [if_neg h, if_pos (by omega)]
      rfl
theorem tiled_ne (w : OwnC S z e) (b : Beyond S z t e n) (ht : 0 ≤ t) : PyData.eqv (.tuple ((tiledN S z (chainL S z e (n + 1) (n + 1) 50000 0) 50000 0 1 none (shownN S z e (n + 1) (n + 1))).map .str)) (.tuple ((tiledN S z (chainL S z e (n + 1) (n + 1) 50000 0) 50000 0 1 (some t) (shownN S z e n (n + 1))).map .str)) = false := by
  have h30 := b.2.2
  rw [tiled_at w (Nat.le_refl _) h30 (known_none _), tiled_at w (by omega) h30 (chain_known w b ht)]
  by_cases h : n % 2 = 1
  · rw [if_neg (by omega), if_pos h]
    rfl
  · rw [if_pos (by omega), if_neg h]
    rfl
/-- where thirty labels reach beyond, some number of them is the least -/
theorem beyond_ex (w : OwnC S z e) (h : t < gr S z e - 1 + 29 * (2 * gr S z e - 1)) : ∃ n, Beyond S z t e n := by
  have key : ∀ j : Nat, j ≤ 29 → t < gr S z e - 1 + (j : Int) * (br S z e e - 1) → ∃ n, n ≤ j ∧ (∀ i : Nat, i < n → gr S z e - 1 + (i : Int) * (br S z e e - 1) ≤ t) ∧ t < gr S z e - 1 + (n : Int) * (br S z e e - 1) := fun j => by
    induction j with
    | zero => exact fun _ h => ⟨0, Nat.le_refl _, (fun i hi => absurd hi (Nat.not_lt_zero _)), h⟩
    | succ j ih =>
      intro hj hlt
      by_cases hc : t < gr S z e - 1 + (j : Int) * (br S z e e - 1)
      · obtain ⟨n, h1, h2, h3⟩ := ih (by omega) hc
        exact ⟨n, by omega, h2, h3⟩
      · refine ⟨j + 1, Nat.le_refl _, fun i hi => ?_, hlt⟩
        have hd : 0 ≤ br S z e e - 1 := by
          have := w.gb
          rw [br_two]
          omega
        have : (i : Int) * (br S z e e - 1) ≤ (j : Int) * (br S z e e - 1) := Int.mul_le_mul_of_nonneg_right (by omega) hd
        omega
  obtain ⟨n, h1, h2, h3⟩ := key 29 (by omega) (by rw [br_two]; exact h)
  exact ⟨n, h2, h3, by omega⟩
end
end Sl
/-! SlSr: _law_strip_right. -/
namespace Sl
open PySem PySem.Spec PyProof.Rows L2 StX RZ LamX
open Evl (Ex ex_l ex_t ex_rd sq_of st_of sz_of sz_lt fresh_back)
local macro_rules | `(tactic| walk_at "sd") => `(tactic| first | assumption | omega | decide | (constructor <;> assumption) | (constructor <;> omega))
abbrev qLam : Str := "_law_strip_right.<locals>.<lambda>"
abbrev aSR : He.Defn := ("_law_strip_right", none)
/-- the table of code objects of _law_strip_right -/
def tabR (P : Addr) : Rg := ⟨[P], fun H => TabS H P qLam, fun e t => t.ext e, fun ⟨ps, h, _⟩ a ha => by
  rw [List.mem_singleton.mp ha, h]
  simp⟩
theorem code_ref {K : PySem.W.Frag} {cdv : Value} {q : Str} (h : PySem.W.codeIn K cdv q = true) : ∃ c, cdv = .ref c := by
  unfold PySem.W.codeIn at h
  cases cdv with
  | ref c => exact ⟨c, rfl⟩
  | _ => cases h
section
variable {P : Program} {w : World} {K : PySem.W.Frag} {mg : Str → Option Value} {base : Heap}
/-- a def over a region, its code object known -/
theorem fn_Mc {x qual : Str} {params : Arguments} {body : List Stmt} {scope : Scope} {dvs : List V} {kws : List (Str × V)} {f : Addr} {fd : FuncData} {N ps : List Str} {k : Nat} {R : List Dt → Rg → Rg → Dt → Prop} {p : Str × Option Str} (hf : f = He.fAd K p)
    (F : FunD K x qual params body scope dvs kws f fd) (S : FnScope N ps scope) (hl : ∀ ds r r' d, R ds r r' d → ds.length = ps.length)
    (hb : ∀ (A : Around) (outer : List Env) (s : Shared) (H : Hp) (E : XK), Room k (A.deeper (envOfC qual scope s.heap.objs.size f (.ref (He.codeOf K p)))) →
      ∃ t, PSs (cxOf CX0 P w K mg base N qual scope f (.ref (He.codeOf K p)) A outer s H E).nox body t ∧ ∀ ds r r' d, R ds r r' d → Sm r t (ds.map some ++ List.replicate (N.length - ds.length) none) (.ret r' d)) : FnOk P w K mg base CX0 (k + 1) f fd ps (spM R) := by
  obtain ⟨oc, od, dV, kV, doc, pm, an, cdv, ct, osl, rfl, lk, hcd, _, _⟩ := F.ex
  obtain ⟨c, rfl⟩ := code_ref hcd
  subst hf
  have ec : He.codeOf K p = c := He.codeOf_eq lk rfl
  rw [ec] at hb
  refine fn_of lk hcd S (fun vs H Q E ⟨ds, r, r', d, hr, _, h, _⟩ => by rw [← hl ds r r' d hr, h.len]) fun A outer s H vs Q E hr ⟨ds, r, r', d, hR, j, h, q⟩ => ?_
  obtain ⟨t, ht, hs⟩ := hb A outer s H E hr
  refine ⟨t, ht.nox, hs ds r r' d hR H _ _ ⟨j, ?_⟩ fun v H' j' e' p' => q v H' j' e' p'⟩
  unfold L2.start
  rw [← h.len]
  exact EnvOk.start h _
/-- more facts of the classes of errors -/
structure ErrX (K : PySem.W.Frag) : Prop where
  exm : PySem.W.exmOne K (cTM K) (.ref (He.ga K "LabelError")) = some true
  xf : XfC K (He.ga K "TooMany")
theorem em_lam3 {pT : Addr} {ρ : Rho} {L : Value} {C : Addr} {fs : List (Str × V)} {R : List Dt → Prop} {ta : TA} {ds : List Dt} (h : EdA ta ρ ds) (hr : R ds) (hx : PySem.W.exmOne K (.ref C) L = some true) :
    Em (tabR pT) (tabR pT) (tLam3 pT qLam (TTc K L) fun E => tCall (spX (.ref C) fs R) [] E ta) ρ (dErr C fs) := fun H σ e Q q =>
  ⟨e.1, fun H1 ex T1 => h H1 σ ((e.2.mono ex).mono hideL_ex) _ fun vs H2 e2 p2 => ⟨ds, hr, by rw [List.append_nil]; exact p2, fun d H' e3 hd => ⟨hx, fun a na => by
    have j : TabS H' pT qLam := (T1.ext e2).ext e3
    obtain ⟨ps, hP, _⟩ := id j
    have hdP : d ≠ pT := fun z => by
      rw [z, hP] at hd
      cases hd
    have haP : a ≠ pT := fun z => by
      rw [z, hP] at na
      cases na
    have hda : d ≠ a := ne_of_none hd na
    refine q _ _ (j.ext (Ex.new na)) (ex.trans (hideL_mono ((e2.trans e3).trans (Ex.new na)))) ⟨a, d, rfl, ?_, ?_⟩
    · show hideL [pT] _ a = _
      rw [hideL_at (show a ∉ [pT] by simpa using haP), upd_same]
    · show hideL [pT] _ d = _
      rw [hideL_at (show d ∉ [pT] by simpa using hdP), upd_ne hda]
      exact hd⟩⟩⟩
theorem tab_hid {pT : Addr} {d : Dt} (h : HidL d) : HidR (tabR pT) d := fun H v ⟨ps, hP, _⟩ pv => h H _ v (fun a ha => by
  obtain rfl := List.mem_singleton.mp ha
  exact ⟨_, hP, ⟨fun _ z => (nomatch z), fun _ _ z => (nomatch z), fun _ _ _ z => (nomatch z)⟩⟩) pv
theorem hidL_lab {S : Sty} {l : Lab} : HidL (labD K S l) := hidL_tup fun d hd => by
  simp only [List.mem_cons, List.not_mem_nil, or_false] at hd
  rcases hd with rfl | rfl | rfl | rfl | rfl | rfl <;> exact hidL_V
theorem hidL_cut3 {S : Sty} {z : Int} {e n : Nat} : HidL (cutD3 K S z e n) := hidL_tup fun d hd => by
  simp only [List.mem_cons, List.not_mem_nil, or_false] at hd
  rcases hd with rfl | rfl | rfl
  · exact hidL_V
  · exact hidL_tup fun d hd => by
      simp only [List.mem_cons, List.not_mem_nil, or_false] at hd
      rcases hd with rfl | rfl | rfl <;> exact hidL_V
  · exact hidL_tup fun d hd => by
      obtain ⟨l, _, rfl⟩ := List.mem_map.mp hd
      exact hidL_lab
theorem cd_reprI {i : Int} (h : i.natAbs.log2 < 1920) : CD (fun xs H Q => ∃ i : Int, xs = [.int i] ∧ i.natAbs.log2 < 1920 ∧ Q (.str (toString i)) H) [dI i] (dS (toString i)) := fun H vs hv Q q => by
  obtain ⟨v, rfl, p⟩ := all2_1 hv
  have p : v = .int i := p
  subst p
  exact ⟨i, rfl, h, q _ H (Ex.refl H) rfl⟩
def R_law_strip_right (K : PySem.W.Frag) (pT : Addr) : List Dt → Rg → Rg → Dt → Prop := fun ds r r2 d => ∃ S : Sty, ∃ z : Int, ∃ t : Int, ∃ e : Nat, (OwnC S z e) ∧ (0 ≤ t ∧ t ≤ 99999) ∧ ds = [dLore K S, dSty K S, dI z, dI t, dI (gr S z e)] ∧ r = tabR pT ∧ r2 = tabR pT ∧ d = dB true
abbrev N_law_strip_right : List Str := ["_law_lore_here", "_law_style", "_law_zoom", "_law_strip", "_law_wide", "_law_caught_here", "_law_told"]
theorem sc_law_strip_right : FnScope N_law_strip_right ["_law_lore_here", "_law_style", "_law_zoom", "_law_strip", "_law_wide"] (defScope s_law_strip_right) := ⟨rfl, rfl, rfl, by decide +kernel, rfl, by decide +kernel, by decide +kernel⟩
theorem fn_law_strip_right (T : Tx w K mg) (Z : TmX P K mg) (Y : ErrX K) (TB : TabB base mg (He.codeOf K aSR) (He.cT K aSR).2) : Fn0 P w K mg base 12 "_law_strip_right" ["_law_lore_here", "_law_style", "_law_zoom", "_law_strip", "_law_wide"] (spM (R_law_strip_right K (He.cT K aSR).2)) := by
  obtain ⟨fd, F⟩ := T.f_law_strip_right
  have nd := sc_law_strip_right.nd
  obtain ⟨fdc, Fc⟩ := T.f_law_caught
  obtain ⟨goc, god, gdV, gkV, gdoc, gpm, gan, gcd, gct, gosl, rfl, glk, ghcd, _, _⟩ := Fc.ex
  refine mk_fn T.g_law_strip_right F.kp (fn_Mc (p := aSR) rfl F sc_law_strip_right (by rintro _ _ _ _ ⟨S, z, t, e, c0, c1, rfl, rfl, rfl, rfl⟩; rfl) (fun A outer s H E hr => ?_)) (F.bindsN fun _ _ _ _ _ _ us hl => match us, hl with | [_, _, _, _, _], _ => rfl)
  have hu := hu_of hr
  have hu65 := hu65 hr
  refine ⟨_, (pss_cons (ps_if (pt_cmpR op_isnot_bl (pe_callF (fn_shows_cut_W T) (hr.mono (by decide)) (pa_cons (pv 1) (pa_cons (pv 2) (pa_cons (pv 3) (pa_cons (pe_tup (pa_cons pe_str pa_nil)) pa_nil))))) pe_bl (nomark _)) (pss_one (ps_ret pe_bl)) pss_nil) (pss_cons (ps_if (pt_cmpR op_le (pe_op op_add (pe_op op_sub (pv 4) pe_int) (pe_op op_mul pe_int (pe_op op_sub (pe_op op_mul pe_int (pv 4)) pe_int))) (pv 3) (nomark _)) (pss_cons (ps_set (i := 5) nd rfl (Or.inl rfl) (pe_lam3 (k := 9) (t := fun E => tCall (spX (cTM K) fs30 (RX_cut K)) [] E (tCons (tVar 1) (tCons (tVar 2) (tCons (tVar 3) tNil)))) rfl T.g_law_caught Fc.kp glk ghcd (Fc.bindsN fun _ _ _ _ _ _ us hl => match us, hl with | [_], _ => rfl) sc_caught rfl (Or.inl rfl) (caught_gives T.g_LabelError) rfl TB rfl hr (lamS_by (by rfl)) rfl (fun _ _ _ _ _ => rfl) (fun A outer s H E f c' hr => pe_callX (fx_cut T Z) hr (pa_cons (pv 1) (pa_cons (pv 2) (pa_cons (pv 3) pa_nil))) passes_lam))) (pss_one (ps_ret (pe_and (pe_bi call_isH T.b_isinstance (by decide +kernel) (pa_cons (pv 5) (pa_cons (pe_gref T.g_TooMany) pa_nil))) (pe_one (pe_cmpR op_eq (pe_bi SkE.call_repr_int T.b_repr (by decide +kernel) (pa_cons (pe_xv Y.xf Z.c.nv (pv 5)) pa_nil)) pe_str (nomark _))))))) pss_nil) (pss_cons (ps_set (i := 6) nd rfl (Or.inl rfl) (pe_callF (fn_cut T) (hr.mono (by decide)) (pa_cons (pv 1) (pa_cons (pv 2) (pa_cons (pv 3) pa_nil))))) (pss_one (ps_ret (pe_and (pe_callF (fn_law_is_cut T) (hr.mono (by decide)) (pa_cons (pv 0) (pa_cons (pv 2) (pa_cons (pv 3) (pa_cons (pv 6) pa_nil))))) (pe_one (pe_cmpR op_is_bl (pe_callF (fn_shows_cut_C T) (hr.mono (by decide)) (pa_cons (pv 1) (pa_cons (pv 2) (pa_cons (pv 3) (pa_cons (pv 6) pa_nil))))) pe_bl (nomark _))))))))), ?_⟩
  rintro _ _ _ _ ⟨S, z, t, e, c0, c1, rfl, rfl, rfl, rfl⟩
  refine sm_ifR rfl (tm_e (td_test (ed_notB (ed_call (eda_cons ed_var (eda_cons ed_var (eda_cons ed_var (eda_cons (ed_tup (K := K) (eda_cons ed_c eda_nil) (by simp)) eda_nil)))) ⟨S, z, t, e, c0.ok, c0.hz, c1, c0.fo, rfl, rfl⟩) ed_c))) (fun hb => absurd hb (by decide)) (fun _ => ?_)
  have hg := c0.gb
  have h2 := br_two S z e
  refine sm_ifR rfl (tm_e (td_test (ed_le (ed_add (ed_sub ed_var ed_c) (ed_mul ed_c (ed_sub (ed_mul ed_c ed_var (by walk_at "sd")) ed_c) (by walk_at "sd"))) ed_var))) (fun hb => ?_) (fun hb => ?_)
  · have hb := of_decide_eq_true hb
    refine sm_seq rfl (sm_set rfl (em_lam3 (eda_cons ed_var (eda_cons ed_var (eda_cons ed_var eda_nil))) ⟨S, z, t, e, c0.ok, c0.hz, c1, c0.fo, ⟨by omega, by rw [h2]; omega⟩, rfl⟩ Y.exm)) ?_
    exact sm_ret (em_e (ed_is (ed_andV (ed_cb (eda_cons ed_var (eda_cons ed_c eda_nil)) cd_isH) fun _ => ed_eqS (ed_cb (eda_cons (ed_xv ed_var rfl) eda_nil) (cd_reprI (i := 30) (by decide))) ed_c) (congrArg dB (by decide))) hidr_V)
  · have hb := of_decide_eq_false hb
    obtain ⟨n, b⟩ := beyond_ex (t := t) c0 (by omega)
    have hn := b.2.2
    refine sm_seq rfl (sm_set rfl (em_e (ed_call (eda_cons ed_var (eda_cons ed_var (eda_cons ed_var eda_nil))) ⟨S, z, t, e, n, c0.ok, c0.hz, c1, c0.fo, b, rfl, rfl⟩) (tab_hid hidL_cut3))) ?_
    have kn := known_none (chainL S z e (n + 1) (n + 1) 50000 0)
    have kt := chain_known (m := n + 1) c0 b c1.1
    have hs := chain_sheet c0 b c1.2
    refine sm_ret (em_e (ed_is (ed_andV (ed_call (eda_cons ed_var (eda_cons ed_var (eda_cons ed_var (eda_cons ed_var eda_nil)))) ⟨S, z, t, chainL S z e (n + 1) (n + 1) 50000 0, revC S z e (n + 1) (n + 1), shownN S z e (n + 1) (n + 1), revC S z e n (n + 1), shownN S z e n (n + 1), c0.ok, c0.hz, hs, chain_labok c0, ?_, ?_, tiled_ne c0 b c1.1, rfl, rfl⟩) fun _ => ed_isB (ed_call (eda_cons ed_var (eda_cons ed_var (eda_cons ed_var (eda_cons ed_var eda_nil)))) ⟨S, z, t, _, revC S z e (n + 1) (n + 1), c0.ok, c0.hz, c1, hs, chain_ordd c0 (by omega) (by omega), rev_labok c0, told_ne c0 b c1.1, rfl, rfl⟩) ed_c) (congrArg dB (by decide))) hidr_V)
    · rw [kn]
      exact ⟨chain_ordd c0 (by omega) (by omega), shown_names c0 (by omega) (by omega)⟩
    · rw [kt]
      exact ⟨chain_ordd c0 (by omega) (by omega), shown_names c0 (by omega) (by omega)⟩
end
end Sl
/-! SlRt: repr of a tuple of texts; the region of the pot and the table; _law_right. -/
namespace Sl
open PySem PySem.Spec PyProof.Rows L2 StX RZ LamX
open Evl (Ex ex_l ex_t ex_rd sq_of st_of sz_of sz_lt fresh_back)
local macro_rules | `(tactic| walk_at "sd") => `(tactic| first | assumption | omega | decide | (constructor <;> assumption) | (constructor <;> omega))
/-! ### repr of a datum; no repr is under way -/
def rReprD (K : PySem.W.Frag) : List V → Hp → VK → Prop := fun xs H Q => ∃ a d, xs = [.ref a] ∧ Dp K H (.ref a) d ∧ d.showable = true ∧ d.hasDict = false ∧ d.depth ≤ 20 ∧ d.shown.length ≤ sizeLine ∧ Q (.str d.shown) H
theorem call_reprD {X : Cx} (K : PySem.W.Frag) (hg : X.A.guards = some []) (hu : X.A.units + 64 < cLine) (hX : X.K = K := by rfl) : CallR X (.builtin "repr") (rReprD K) := by
  subst hX
  intro pins s σ H xs us Q I r h
  obtain ⟨a, d, rfl, hd, h1, h2, h3, h4, q⟩ := h
  cases r with
  | cons rx rr =>
    cases rr
    obtain ⟨as, rd⟩ := Dp.reads I d _ _ hd rx
    cases rx
    exact repr_of_reads' rd h1 (fun z => by rw [h2] at z; cases z) hg (by omega) (fun _ _ z => z) (fun h' u tk k => ⟨.str d.shown, H, I.kept (t' := tk) k, ⟨_, rfl⟩, q⟩) h4
theorem name_none : IsName ("none" : Str) := ⟨by decide, by decide, show ∀ c ∈ ("none" : Str).cps.toList, 97 ≤ c ∧ c ≤ 122 by decide⟩
def tupS2 (a b : Str) : PyData := .tuple [.str a, .str b]
theorem tupS2_len {a b : Str} (ha : IsName a) (hb : IsName b) : (tupS2 a b).shown.length ≤ sizeLine := by
  have la : ∀ {x : Str}, IsName x → (reprText x).length ≤ 122 := fun {x} hx => by
    have h1 := StrLaws.reprText_len x fun c hc => Nat.lt_trans (show c < 128 from by have := hx.2.2 c hc; unfold isLow at this; omega) (by decide)
    have h2 := hx.2.1
    omega
  have h1 := tupleText_len_le [reprText a, reprText b]
  have h2 := la ha
  have h3 := la hb
  have e : (tupS2 a b).shown = tupleText [reprText a, reprText b] := rfl
  rw [e]
  simp only [List.map_cons, List.map_nil, List.sum_cons, List.sum_nil, List.length_cons, List.length_nil] at h1
  rw [sizeLine_eq]
  omega
theorem cd_repr2 {K : PySem.W.Frag} {a b : Str} (ha : IsName a) (hb : IsName b) : CD (rReprD K) [dTup K [dS a, dS b]] (dS (tupS2 a b).shown) := fun H vs h Q q => by
  obtain ⟨v, rfl, pv⟩ := all2_1 h
  have hp := pd_tup (K := K) (ds := [dS a, dS b]) (es := [.str a, .str b]) rfl (fun i d e h1 h2 => match i, h1, h2 with
    | 0, h1, h2 => by cases h1; cases h2; exact pd_S
    | 1, h1, h2 => by cases h1; cases h2; exact pd_S
    | _ + 2, h1, _ => by simp at h1) H v pv
  obtain ⟨p, us, rfl, _⟩ := id pv
  exact ⟨p, tupS2 a b, rfl, hp, rfl, rfl, by simp [tupS2, PyData.depth, PyData.depthAll], tupS2_len ha hb, q _ H (Ex.refl H) rfl⟩
/-! ### a table hidden -/
def HidT (d : Dt) : Prop := ∀ (H : Hp) (T : Addr) (ps : Array Value) (v : V), H T = some (.tbl ps) → d.P H v → d.P (hideL [T] H) v
theorem hidT_V {x : V} : HidT (dV x) := fun _ _ _ _ _ h => h
theorem hidT_rng {lo hi : Int} : HidT (dRng lo hi) := fun _ _ _ _ _ h => h
theorem hidT_at {H : Hp} {T b : Addr} {ps : Array Value} {o : HO} (h : H T = some (.tbl ps)) (n : ∀ q, o ≠ .tbl q) (e : H b = some o) : hideL [T] H b = some o := by
  rw [hideL_at (show b ∉ [T] from fun z => by
    rw [List.mem_singleton.mp z, h] at e
    exact n ps (Option.some.inj e).symm)]
  exact e
theorem kx_soft {H : Hp} {as : List Addr} (h : ∀ a ∈ as, ∃ o, H a = some o ∧ Soft o) : Kx H (hideL as H) := fun b o e n => by
  rw [hideL_at fun hm => by
    obtain ⟨o', e', s⟩ := h b hm
    rw [e] at e'
    cases e'
    exact n s]
  exact e
theorem kx_tbl {H : Hp} {T : Addr} {ps : Array Value} (h : H T = some (.tbl ps)) : Kx H (hideL [T] H) := kx_soft fun a ha => ⟨_, by rw [List.mem_singleton.mp ha]; exact h, .inr ⟨ps, rfl⟩⟩
theorem hidT_imm {d : Dt} (h : Imm d) : HidT d := fun H T ps v ht p => h (kx_tbl ht) p
theorem hidT_lst {K : PySem.W.Frag} {ds : List Dt} (hd : ∀ d ∈ ds, Imm d) : HidT (dLst K ds) := fun H T ps v ht ⟨p, vs, e, b, c⟩ => ⟨p, vs, e, hidT_at ht (fun q z => nomatch z) b, c.imm (kx_tbl ht) hd⟩
theorem hidT_lore {K : PySem.W.Frag} {S : Sty} : HidT (dLore K S) := fun H T ps v ht ⟨a, lb, lf, lc, h1, h2, h3, h4, h5⟩ => ⟨a, lb, lf, lc, h1, hidT_at ht (fun q z => nomatch z) h2,
  hidT_lst (fun d hd => by
    obtain ⟨p, _, rfl⟩ := List.mem_map.mp hd
    exact imm_tupI K _) H T ps _ ht h3,
  hidT_lst (fun d hd => by
    obtain ⟨p, _, rfl⟩ := List.mem_map.mp hd
    exact imm_tup fun d hd => by
      simp only [List.mem_cons, List.not_mem_nil, or_false] at hd
      rcases hd with rfl | rfl
      · exact imm_nTupI _
      · exact @imm_V _) H T ps _ ht h4,
  hidT_lst (fun d hd => by
    obtain ⟨p, _, rfl⟩ := List.mem_map.mp hd
    exact imm_cls K _) H T ps _ ht h5⟩
theorem hidT_loreX {K : PySem.W.Frag} : HidT (dLoreX K) := fun H T ps v ht ⟨S, g, h⟩ => ⟨S, g, hidT_lore H T ps v ht h⟩
theorem hidT_ints3 {a b c : Int} : ∀ d ∈ [dI a, dI b, dI c], HidT d := fun d hd => by
  simp only [List.mem_cons, List.not_mem_nil, or_false] at hd
  rcases hd with rfl | rfl | rfl <;> exact hidT_V
theorem hidT_one {ds : List Dt} (h : ∀ d ∈ ds, HidT d) : HidT (dOne ds) := fun H T ps v ht ⟨d, hd, p⟩ => ⟨d, hd, h d hd H T ps v ht p⟩
/-! ### the pot and the table -/
theorem hide2 (p T : Addr) (H : Hp) : hideL [T] (hideL [p] H) = hideL [p, T] H := by
  funext b
  unfold hideL
  by_cases h1 : b = p
  · simp [h1]
  · by_cases h2 : b = T
    · simp [h2]
    · simp [h1, h2]
def prR (p : Addr) (n : Nat) (T : Addr) : Rg := ⟨[p, T], fun H => (potR p n).J H ∧ TabS H T qLam, fun e ⟨a, b⟩ => ⟨(potR p n).mono e a, b.ext e⟩, fun ⟨a, b⟩ c hc => by
  rcases List.mem_cons.mp hc with rfl | hc
  · exact (potR c n).live a c (List.mem_singleton.mpr rfl)
  · exact (tabR T).live b c hc⟩
section
variable {K : PySem.W.Frag} {p T : Addr} {n n' n0 : Nat} {ρ : Rho} {te : TE} {tt : TA} {d : Dt}
theorem pr_ne {H : Hp} (h : (prR p n T).J H) : T ≠ p := fun e => by
  obtain ⟨⟨x, y, z, h1, _⟩, ps, h2, _⟩ := h
  rw [e, h1] at h2
  cases h2
theorem pr_le {H : Hp} (h : n ≤ n') (j : (prR p n T).J H) : (prR p n' T).J H := ⟨potR_le h j.1, j.2⟩
theorem tab_pot {H H' : Hp} (j : (prR p n T).J H) (e : Ex (hideL [p] H) (hideL [p] H')) : TabS H' T qLam := by
  have ne := pr_ne j
  obtain ⟨⟨x, y, z, h1, _⟩, ps, h2, h3, h4⟩ := j
  have up : ∀ b o, b ≠ p → H b = some o → H' b = some o := fun b o n q => by
    have := e b o (by rw [hideL_at (show b ∉ [p] by simpa using n)]; exact q)
    rwa [hideL_at (show b ∉ [p] by simpa using n)] at this
  refine ⟨ps, up T _ ne h2, h3, fun pos cv hc => ?_⟩
  obtain ⟨c, e1, e2⟩ := h4 pos cv hc
  refine ⟨c, e1, up c _ (fun z => ?_) e2⟩
  rw [z, h1] at e2
  cases e2
theorem pr_hd {H : Hp} {v : V} (hd : HidT d) (j : (prR p n T).J H) (h : d.P (hideL [p] H) v) : d.P (hideL [p, T] H) v := by
  have ne := pr_ne j
  obtain ⟨_, ps, h2, _⟩ := j
  rw [← hide2]
  exact hd _ T ps v (by rw [hideL_at (show T ∉ [p] by simpa using ne)]; exact h2) h
/-- a call over the pot alone; what it is given may be one of several -/
theorem em_callP {ι : Type} {R : List Dt → Rg → Rg → Dt → Prop} {E : XK} {ds0 : List Dt} {ds : ι → List Dt} {Pι : ι → Prop} (h : EmA (prR p n0 T) (prR p n T) tt ρ ds0) (hu : ∀ H vs, All2 H ds0 vs → ∃ i, Pι i ∧ All2 H (ds i) vs) (hr : ∀ i, Pι i → R (ds i) (potR p n) (potR p n') d) (hd : HidT d) :
    Em (prR p n0 T) (prR p n' T) (tCall (spM R) [] E tt) ρ d := fun H σ e Q q => h H σ e _ fun vs H1 j e1 p1 => by
  obtain ⟨i, hi, p2⟩ := hu _ _ p1
  refine ⟨ds i, potR p n, potR p n', d, hr i hi, j.1, by rw [List.append_nil]; exact p2.mono (hideL_sub fun a ha => by rw [List.mem_singleton.mp ha]; exact List.mem_cons_self), fun v H2 j' e2 p3 => ?_⟩
  have jb : (prR p n' T).J H2 := ⟨j', tab_pot j e2⟩
  exact q v H2 jb (e1.trans (hideL_exS (fun a ha => by rw [List.mem_singleton.mp ha]; exact List.mem_cons_self) e2)) (pr_hd hd jb p3)
theorem em_callP1 {R : List Dt → Rg → Rg → Dt → Prop} {E : XK} {ds : List Dt} (h : EmA (prR p n0 T) (prR p n T) tt ρ ds) (hr : R ds (potR p n) (potR p n') d) (hd : HidT d) : Em (prR p n0 T) (prR p n' T) (tCall (spM R) [] E tt) ρ d :=
  em_callP (ι := Unit) (ds := fun _ => ds) (Pι := fun _ => True) h (fun _ _ h => ⟨(), True.intro, h⟩) (fun _ _ => hr) hd
/-- a call over the table alone -/
theorem em_callT {R : List Dt → Rg → Rg → Dt → Prop} {E : XK} {ds : List Dt} {x : V} (h : EmA (prR p n0 T) (prR p n T) tt ρ ds) (hr : R ds (tabR T) (tabR T) (dV x)) : Em (prR p n0 T) (prR p n T) (tCall (spM R) [] E tt) ρ (dV x) :=
  em_callS (r1 := prR p n T) (rs := tabR T) (rs' := tabR T) rfl h hr (fun a ha => List.mem_cons_of_mem _ ha) (fun H j => j.2) (fun H H' j j' e => by
    have ne := pr_ne j
    obtain ⟨⟨x, y, z, h1, h2⟩, _⟩ := j
    refine ⟨⟨x, y, z, ?_, h2⟩, j'⟩
    have := e p _ (show hideL [T] H p = _ by rw [hideL_at (show p ∉ [T] by simpa using ne.symm)]; exact h1)
    have q : hideL [T] H' p = _ := this
    rwa [hideL_at (show p ∉ [T] by simpa using ne.symm)] at q) (fun H v j h => h)
theorem pr_imm (h : Imm d) : HidR (prR p n T) d := fun H v ⟨⟨x, y, z, h1, _⟩, ps, h2, _⟩ pv => h (kx_soft fun a ha => by
  rcases List.mem_cons.mp ha with rfl | ha
  · exact ⟨_, h1, .inl ⟨_, rfl⟩⟩
  · rw [List.mem_singleton.mp ha]
    exact ⟨_, h2, .inr ⟨ps, rfl⟩⟩) pv
end
/-! ### a def whose promise leans on no repr being under way -/
structure FnG (P : Program) (w : World) (K : PySem.W.Frag) (mg : Str → Option Value) (base : Heap) (k : Nat) (x : Str) (sp : Sp) : Prop where
  ex : ∃ f, mg x = some (.ref f) ∧ PySem.W.keepIn K (.ref f) = true ∧ ∀ (A : Around) (outer : List Env) (s : Shared) (H : Hp) (us : List Value) (vs : List V) (Q : VK) (E : XK), A.guards = some [] → Room k A → Env0 P w K mg base A outer s H → Vals vs us → sp vs H Q E →
    codeAny (model P w) A (.call (.ref f) ⟨us, []⟩) (CR CX0 outer P w H s Q E) s
theorem fn_G {P : Program} {w : World} {K : PySem.W.Frag} {mg : Str → Option Value} {base : Heap} {x qual : Str} {params : Arguments} {body : List Stmt} {scope : Scope} {f : Addr} {fd : FuncData} {N ps : List Str} {k : Nat} {sp : Sp}
    (F : FunD K x qual params body scope [] [] f fd) (S : FnScope N ps scope) (hm : mg x = some (.ref f)) (hb : L2.Binds K fd ps []) (len : ∀ vs H Q E, sp vs H Q E → vs.length = ps.length)
    (hbody : ∀ (cdv : Value) (A : Around) (outer : List Env) (s : Shared) (H : Hp) (vs : List V) (Q : VK) (E : XK), A.guards = some [] → Room k (A.deeper (envOfC qual scope s.heap.objs.size f cdv)) → sp vs H Q E →
      ∃ t, PSs (cxOf CX0 P w K mg base N qual scope f cdv A outer s H E).nox body t ∧ t { nx := fun _ H' => Q .non H', rt := Q } (L2.start N vs) H) : FnG P w K mg base (k + 1) x sp := by
  obtain ⟨oc, od, dV, kV, doc, pm, an, cdv, ct, osl, rfl, lk, hcd, _, _⟩ := F.ex
  refine ⟨f, hm, F.kp, fun A outer s H us vs Q E hg hr e0 r hsp => ?_⟩
  have hl := len _ _ _ _ hsp
  refine run_ofS (N := N) (ps := ps) (us := us) (vs := vs) lk hcd S hr e0 ?_ r hl fun hr' => ?_
  · have := hb s us (e0.mod.kin.keeps fun b o e => (e0.bs b o e).1) (by rw [List.append_nil, ← r.length, hl])
    simpa using this
  · obtain ⟨t, ht, hq⟩ := hbody cdv A outer s H vs Q E hg hr' hsp
    exact ⟨t, ht.nox, hq⟩
theorem pe_callG {X : Cx} {x : Str} {p pos : Pos} {e : Expr} {es : List Expr} {t : TA} {sp : Sp} {k : Nat} {P : Program} {w : World} {K : PySem.W.Frag} {mg : Str → Option Value} {base : Heap} {A : Around} (F : FnG P w K mg base k x sp) (hA : A.guards = some []) (hr : Room k A) (ha : PA X (e :: es) t) (hX : At X P w K mg base A := by exact ⟨rfl, rfl, rfl, rfl, rfl, rfl⟩) (hg : Gl X x := by rfl) (hd : (x == ("__debug__" : Str)) = false := by decide)
    (he : starEach (e :: es) X.env = (false, eval e X.env) :: starEach es X.env := by rfl) (hpl : (backTo pos (starEach es X.env)).any (·.1) = false := by rfl) : PE X (.Call (.Name x p) (e :: es) [] pos) (tCall sp [] E0 t) := by
  obtain ⟨rfl, rfl, rfl, rfl, rfl, rfl⟩ := hX
  obtain ⟨f, hm, hk, run⟩ := F.ex
  refine ⟨fun pins s σ H Q I h => wpAny_Call_Name_kw (ld_glob I hg hm ?_ hd)⟩
  refine PySem.W.callWith_K (h₀ := X.base) I.ok.mod.kin hk (thn (ha.run pos pins s σ H _ I h) fun us s1 ⟨vs, H1, I1, r1, q1⟩ => ⟨I1.kIn, ?_⟩) he hpl
  have q1 : sp (vs ++ []) H1 Q E0 := q1
  rw [List.append_nil] at q1
  refine wpAny_call (codeAny_mono (run X.A X.stack s1 H1 us vs Q E0 hA hr I1.env0 r1 q1) fun r s2 hq => ?_)
  match r, hq with
  | .ok (.ret u), hq => exact I1.after hq
  | .error e, hq => exact (show False from hq).elim
section
variable {P : Program} {w : World} {K : PySem.W.Frag} {mg : Str → Option Value} {base : Heap}
theorem ed_style {S : Sty} {ρ : Rho} {ta : TE} {E : XK} (g : GoodS S) (hx : S.text = textS S) (h1 : Ed ta ρ (dS (textS S))) : Ed (tMake (He.ga K "Style") (spSt K) [] E (tCons ta tNil)) ρ (dSty K S) := fun H σ e Q q =>
  eda_cons h1 eda_nil H σ e _ fun vs H1 e1 p1 x dx hx' hdx ne => by
    obtain ⟨v, rfl, pv⟩ := all2_1 p1
    have pv : v = .str (textS S) := pv
    subst pv
    have hBx : upd H1 dx (.own x) x = none := by rw [upd_ne (Ne.symm ne)]; exact hx'
    have es : styOf (textS S) (fS S (wordsS S).length) = S := by
      rw [sty_S g, ← hx]
    exact ⟨upd H1 dx (.own x), x, dx, textS S, wordsS S, fS S, rfl, reads_S g, by rw [es]; exact g.ok, hBx, rfl, fun H' e' p' => ⟨rfl, q _ H' ((e1.trans (Ex.new hdx)).trans e') (by rw [es] at p'; exact p')⟩⟩
theorem all2_4' {H : Hp} {a b c d : Dt} {vs : List V} (h : All2 H [a, b, c, d] vs) : ∃ v1 v2 v3 v4, vs = [v1, v2, v3, v4] ∧ a.P H v1 ∧ b.P H v2 ∧ c.P H v3 ∧ d.P H v4 := all2_4 h
theorem sm_par {r r' : Rg} {i j : Nat} {ρ : Rho} {ta : TA} {x y : Dt} (as : r'.as = r.as) (h : EmA r r' ta ρ [x, y]) : Sm r (tPar i j ta) ρ (.nx r' ((ρ.set i (some x)).set j (some y))) := fun H σ D e k => h H σ e _ fun vs H1 j1 e1 p1 => by
  obtain ⟨v, w, rfl, pv, pw⟩ := all2_2 p1
  exact ⟨v, w, rfl, k _ H1 j1 e1 (((e.2.mono e1).set pv i).set pw j)⟩
def R_law_right (K : PySem.W.Frag) (pT : Addr) : List Dt → Rg → Rg → Dt → Prop := fun ds r r2 d => ∃ p : Addr, ∃ n : Nat, n < 60000 ∧ ds = [dV (.ref p)] ∧ r = prR p n pT ∧ r2 = prR p (n + 2000) pT ∧ d = dB true
abbrev N_law_right : List Str := ["_law_pot_here", "_law_lore_here", "_law_style", "_law_zoom", "_law_own_here", "_law_wide", "_law_turn", "_law_many", "_law_border", "_law_some", "_law_strip"]
theorem sc_law_right : FnScope N_law_right ["_law_pot_here"] (defScope s_law_right) := ⟨rfl, rfl, rfl, by decide +kernel, rfl, by decide +kernel, by decide +kernel⟩
theorem fn_law_right (T : Tx w K mg) (Z : TmX P K mg) (Y : ErrX K) (TB : TabB base mg (He.codeOf K aSR) (He.cT K aSR).2) : FnG P w K mg base 13 "_law_right" (spM (R_law_right K (He.cT K aSR).2)) := by
  obtain ⟨fd, F⟩ := T.f_law_right
  have nd := sc_law_right.nd
  refine fn_G F sc_law_right T.g_law_right (F.bindsN fun _ _ _ _ _ _ us hl => match us, hl with | [_], _ => rfl) (by rintro vs H Q E ⟨ds, r, r2, d, ⟨p, n, c0, rfl, rfl, rfl, rfl⟩, _, h, _⟩; rw [← h.len]; rfl) (fun cdv A outer s H vs Q E hgA hr hsp => ?_)
  obtain ⟨ds, r, r2, d, ⟨p, n, c0, rfl, rfl, rfl, rfl⟩, j, h, q⟩ := hsp
  have hu := hu_of hr
  have hu65 := hu65 hr
  have hu64 := hr.units
  replace hgA : (A.deeper (envOfC "_law_right" (defScope s_law_right) s.heap.objs.size (He.fAd K ("_law_right", none)) cdv)).guards = some [] := hgA
  refine ⟨_, (pss_cons (ps_set (i := 1) nd rfl (Or.inl rfl) (pe_callF (fn_law_lore T) (hr.mono (by decide)) (pa_cons (pv 0) (pa_cons pe_int (pa_cons pe_int (pa_cons (pe_callF (fn_law_of T) (hr.mono (by decide)) (pa_cons (pv 0) (pa_cons (pe_lst (pa_cons pe_int (pa_cons pe_int (pa_cons pe_int pa_nil)))) pa_nil))) pa_nil)))))) (pss_cons (ps_par (i := 2) (j := 3) (by rfl) nd rfl rfl (by decide) rfl rfl (pa_cons (pe_makeF (fn_Style_init T) (hr.mono (by decide)) (pa_cons (pe_callF (fn_law_text T) (hr.mono (by decide)) (pa_cons (pv 1) pa_nil)) pa_nil)) (pa_cons (pe_callF (fn_law_take T) (hr.mono (by decide)) (pa_cons (pv 0) (pa_cons (pe_dgetF hu (pv 1) pe_str (fun _ _ => rfl)) pa_nil))) pa_nil)) (by rfl)) (pss_cons (ps_set (i := 4) nd rfl (Or.inl rfl) (pe_callF (fn_law_own T) (hr.mono (by decide)) (pa_cons (pv 1) (pa_cons (pv 3) pa_nil)))) (pss_cons (ps_if (pt_cmp (pc_isN (pv 4))) (pss_one (ps_ret pe_bl)) pss_nil) (pss_cons (ps_if (pt_cmpR op_ne (pe_bi (call_reprD K hgA hu64) T.b_repr (by decide +kernel) (pa_cons (pe_callF (fn_least_strip T) (hr.mono (by decide)) (pa_cons (pv 2) (pa_cons (pv 3) pa_nil))) pa_nil)) (pe_bi (call_reprD K hgA hu64) T.b_repr (by decide +kernel) (pa_cons (pe_tup (pa_cons pe_str (pa_cons (pe_ix (ixK_tup K) (pe_ix (ixK_list K) (pe_dgetF hu (pv 1) pe_str (fun _ _ => rfl)) (pv 4) (fun _ _ => rfl)) pe_int (fun _ _ => rfl)) pa_nil))) pa_nil)) (nomark _)) (pss_one (ps_ret pe_bl)) pss_nil) (pss_cons (ps_set (i := 5) nd rfl (Or.inl rfl) (pe_callF (fn_law_widest T) (hr.mono (by decide)) (pa_cons (pv 1) (pa_cons (pv 4) (pa_cons (pv 3) pa_nil))))) (pss_cons (ps_for PassesOwn.never rfl (pi_r1 T.b_range (pa_cons pe_int pa_nil)) (pg_name (i := 6) nd rfl (Or.inl rfl)) (pss_cons (ps_set (i := 7) nd rfl (Or.inl rfl) (pe_callF (fn_law_of T) (hr.mono (by decide)) (pa_cons (pv 0) (pa_cons (pe_lst (pa_cons pe_int (pa_cons pe_int (pa_cons pe_int (pa_cons pe_int (pa_cons (pe_callF (fn_law_take T) (hr.mono (by decide)) (pa_cons (pv 0) (pa_cons pe_int pa_nil))) pa_nil)))))) pa_nil)))) (pss_cons (ps_set (i := 8) nd rfl (Or.inl rfl) (pe_op op_add (pe_op op_add (pe_op op_sub (pv 5) pe_int) (pe_op op_mul (pv 7) (pe_op op_sub (pe_op op_mul pe_int (pv 5)) pe_int))) (pe_callF (fn_law_of T) (hr.mono (by decide)) (pa_cons (pv 0) (pa_cons (pe_lst (pa_cons pe_int (pa_cons (pe_un un_neg pe_int) (pa_cons pe_int pa_nil)))) pa_nil))))) (pss_cons (ps_set (i := 9) nd rfl (Or.inl rfl) (pe_callF (fn_law_of T) (hr.mono (by decide)) (pa_cons (pv 0) (pa_cons (pe_lst (pa_cons (pv 8) (pa_cons (pv 8) (pa_cons (pv 8) (pa_cons (pe_callF (fn_law_take T) (hr.mono (by decide)) (pa_cons (pv 0) (pa_cons pe_int pa_nil))) pa_nil))))) pa_nil)))) (pss_cons (ps_set (i := 10) nd rfl (Or.inl rfl) (pe_bi (call_max2 (by rfl)) T.b_max (by decide +kernel) (pa_cons pe_int (pa_cons (pe_bi (call_min2 (by rfl)) T.b_min (by decide +kernel) (pa_cons pe_int (pa_cons (pe_bt call_int1 T.b_int (by decide +kernel) (pa_cons (pv 9) pa_nil)) pa_nil))) pa_nil)))) (pss_one (ps_if (pt_not (pt_val (pe_callF (fn_law_strip_right T Z Y TB) hr (pa_cons (pv 1) (pa_cons (pv 2) (pa_cons (pv 3) (pa_cons (pv 10) (pa_cons (pv 5) pa_nil)))))))) (pss_one (ps_ret pe_bl)) pss_nil))))))) (pss_one (ps_ret pe_bl))))))))), ?_⟩
  have hcore : ∀ {t : TS}, Sm (prR p n (He.cT K aSR).2) t ([some (dV (.ref p))] ++ List.replicate 10 none) (.ret (prR p (n + 2000) (He.cT K aSR).2) (dB true)) → t { nx := fun _ H' => Q .non H', rt := Q } (L2.start N_law_right vs) H := fun {t} hs => by
    refine hs H _ _ ⟨j, ?_⟩ fun v H' j' e' p' => q v H' j' e' p'
    unfold L2.start
    have := EnvOk.start h (N_law_right.length - vs.length)
    rw [← h.len]
    rw [← h.len] at this
    exact this
  refine hcore ?_
  generalize (He.cT K aSR).2 = pT at *
  refine sm_seq (r1 := prR p (n + 1001) pT) rfl (sm_set (r' := prR p (n + 1001) pT) (d := dLoreX K) rfl (em_callP (ι := Int) (n := n + 1) (n' := n + 1001) (ds0 := [dV (.ref p), dI 3, dI 3, dOne [dI 0, dI 4, dI 3]]) (ds := fun h => [dV (.ref p), dI 3, dI 3, dI h]) (Pι := fun h => 0 ≤ h ∧ h ≤ 100)
    (ema_cons (r1 := prR p n pT) rfl em_var (ema_cons (r1 := prR p n pT) rfl (em_e ed_c hidr_V) (ema_cons (r1 := prR p n pT) rfl (em_e ed_c hidr_V) (ema_cons (r1 := prR p (n + 1) pT) rfl (em_callP1 (n := n) (ema_cons (r1 := prR p n pT) rfl em_var (ema_cons (r1 := prR p n pT) rfl (em_lst (K := K) rfl (ema_cons rfl (em_e ed_c hidr_V) (ema_cons rfl (em_e ed_c hidr_V) (ema_cons rfl (em_e ed_c hidr_V) ema_nil))) (by simp)) ema_nil)) ⟨p, n, [dI 0, dI 4, dI 3], by simp, by omega, rfl, rfl, rfl, rfl⟩ (hidT_one hidT_ints3)) ema_nil)))) ?_ (fun h hh => ⟨p, n + 1, 3, 3, h, by decide, by decide, hh, by omega, rfl, rfl, rfl, rfl⟩) hidT_loreX)) ?_
  · intro H vs h
    obtain ⟨v1, v2, v3, v4, rfl, h1, h2, h3, d, hd, h4⟩ := all2_4' h
    simp only [List.mem_cons, List.not_mem_nil, or_false] at hd
    rcases hd with rfl | rfl | rfl
    · exact ⟨0, by decide, h1, h2, h3, h4, True.intro⟩
    · exact ⟨4, by decide, h1, h2, h3, h4, True.intro⟩
    · exact ⟨3, by decide, h1, h2, h3, h4, True.intro⟩
  refine sm_env (k := 1) (d := dLoreX K) (f := fun S => dLore K S) (fun S => GoodS S ∧ S.text = textS S) rfl (fun H v ⟨S, g, h⟩ => ⟨⟨textS S, S.last, S.rows, S.beside, S.far⟩, ⟨⟨⟨g.ok.z0, g.ok.z4, g.ok.n1, g.ok.n4, g.ok.rw, g.ok.nd, g.ok.fk, g.ok.fd, g.ok.bl, g.ok.fl⟩, g.gs, g.bs, g.fs⟩, rfl⟩, h⟩) fun S ⟨hS, hx⟩ => ?_
  have hok := hS.ok
  have z0 := hok.z0
  have z4 := hok.z4
  refine sm_seq (r1 := prR p (n + 1002) pT) rfl (sm_par (r' := prR p (n + 1002) pT) (x := dSty K S) (y := dRng 0 (S.last + 1 - 1)) rfl (ema_cons (r1 := prR p (n + 1001) pT) rfl (em_e (ed_style hS hx (ed_call (eda_cons ed_var eda_nil) ⟨S, hS, rfl, rfl⟩)) (pr_imm (imm_sty K S))) (ema_cons (r1 := prR p (n + 1002) pT) rfl (em_callP1 (n := n + 1001) (ema_cons (r1 := prR p (n + 1001) pT) rfl em_var (ema_cons (r1 := prR p (n + 1001) pT) rfl (em_e (ed_lz (ed_var (d := dLore K S))) hidr_V) ema_nil)) ⟨p, n + 1001, S.last + 1, ⟨by omega, by omega⟩, by omega, rfl, rfl, rfl, rfl⟩ hidT_rng) ema_nil))) ?_
  refine sm_env (k := 3) (d := dRng 0 (S.last + 1 - 1)) (f := fun z : Int => dI z) (fun z => 0 ≤ z ∧ z ≤ S.last) rfl (fun H v ⟨z, h1, h2, h3⟩ => ⟨z, ⟨h2, by omega⟩, h1⟩) fun z hz => ?_
  cases hfo : firstOwn S z with
  | none =>
    have ho : ownD S z = dN := by unfold ownD; rw [hfo]
    refine sm_post (r1 := prR p (n + 1002) pT) (d := dB true) (fun H j => pr_le (by omega) j) (fun H v h => h) ?_
    refine sm_seq rfl (sm_set (d := dN) rfl (em_e (ed_is (ed_call (eda_cons ed_var (eda_cons ed_var eda_nil)) ⟨S, z, hok, hz, rfl, rfl⟩) ho) hidr_V)) ?_
    exact sm_ifR rfl (tm_e (td_none ed_var)) (fun _ => sm_ret (em_e ed_c hidr_V)) (fun hb => absurd hb (by decide))
  | some e =>
    have ho : ownD S z = dI (e : Int) := by unfold ownD; rw [hfo]
    have hin := firstOwn_in hfo
    have w : OwnC S z e := ⟨hok, hz, hfo⟩
    have hg := w.gb
    refine sm_seq rfl (sm_set (d := dI (e : Int)) rfl (em_e (ed_is (ed_call (eda_cons ed_var (eda_cons ed_var eda_nil)) ⟨S, z, hok, hz, rfl, rfl⟩) ho) hidr_V)) ?_
    refine sm_ifR rfl (tm_e (td_B (ed_isSome ed_var (notN_V (by simp))))) (fun hb => absurd hb (by decide)) (fun _ => ?_)
    have hnm := (hin.1.ok hok).nm
    refine sm_ifR rfl (tm_e (td_test (ed_neS (ed_cb (eda_cons (ed_call (eda_cons ed_var (eda_cons ed_var eda_nil)) ⟨S, z, e, hok, hz, hfo, rfl, rfl⟩) eda_nil) (cd_repr2 name_none hnm)) (ed_cb (eda_cons (ed_tup (K := K) (eda_cons ed_c (eda_cons (ed_ixT (ed_ixL (ed_lc_ (ed_var (d := dLore K S))) ed_var (at_cls hin.1)) ed_c rfl) eda_nil)) (by simp)) eda_nil) (cd_repr2 name_none hnm))))) (fun hb => absurd hb (by simp)) (fun _ => ?_)
    refine sm_seq rfl (sm_set (d := dI (gr S z e)) rfl (em_e (ed_call (eda_cons ed_var (eda_cons ed_var (eda_cons ed_var eda_nil))) ⟨S, z, e, hok, hz, hin.1, there_pos hin.2.1, rfl, rfl⟩) hidr_V)) ?_
    refine sm_seq (r1 := prR p (n + 1002 + 5 * 2) pT) rfl (sm_forN (n := 2) (m := 2) (fun i => prR p (n + 1002 + 5 * i) pT) [p, pT] (fun _ => rfl) (em_e ed_c hidr_V) rfl (by decide) fun i hi => ⟨_, gdm_name, ?_⟩) (sm_post (r1 := prR p (n + 1002 + 5 * 2) pT) (d := dB true) (fun H j => pr_le (by omega) j) (fun H v h => h) (sm_ret (em_e ed_c hidr_V)))
    generalize hq : n + 1002 + 5 * i = q
    rw [show n + 1002 + 5 * (i + 1) = q + 5 by omega]
    have hq9 : q < 90000 := by omega
    refine sm_seq (r1 := prR p (q + 2) pT) rfl (sm_set (r' := prR p (q + 2) pT) (d := dRng 0 29) rfl (em_wk (d := dOne [dI 0, dI 1, dI 28, dI 29, dRng 0 (30 - 1)]) (em_callP1 (n := q + 1) (ema_cons (r1 := prR p q pT) rfl em_var (ema_cons (r1 := prR p (q + 1) pT) rfl (em_lst (K := K) (r' := prR p (q + 1) pT) rfl (ema_cons (r1 := prR p q pT) rfl (em_e ed_c hidr_V) (ema_cons (r1 := prR p q pT) rfl (em_e ed_c hidr_V) (ema_cons (r1 := prR p q pT) rfl (em_e ed_c hidr_V) (ema_cons (r1 := prR p q pT) rfl (em_e ed_c hidr_V) (ema_cons (r1 := prR p (q + 1) pT) rfl (em_callP1 (n := q) (ema_cons (r1 := prR p q pT) rfl em_var (ema_cons (r1 := prR p q pT) rfl (em_e ed_c hidr_V) ema_nil)) ⟨p, q, 30, by decide, by omega, rfl, rfl, rfl, rfl⟩ hidT_rng) ema_nil))))) (by simp)) ema_nil)) ⟨p, q + 1, _, by simp, by omega, rfl, rfl, rfl, rfl⟩ (hidT_one fun d hd => by
      simp only [List.mem_cons, List.not_mem_nil, or_false] at hd
      rcases hd with rfl | rfl | rfl | rfl | rfl
      · exact hidT_V
      · exact hidT_V
      · exact hidT_V
      · exact hidT_V
      · exact hidT_rng)) fun H v ⟨d, hd, pd⟩ => ?_)) ?_
    · simp only [List.mem_cons, List.not_mem_nil, or_false] at hd
      rcases hd with rfl | rfl | rfl | rfl | rfl
      · exact ⟨0, pd, by decide, by decide⟩
      · exact ⟨1, pd, by decide, by decide⟩
      · exact ⟨28, pd, by decide, by decide⟩
      · exact ⟨29, pd, by decide, by decide⟩
      · obtain ⟨x, h1, h2, h3⟩ := pd
        exact ⟨x, h1, h2, by omega⟩
    refine sm_env (k := 7) (d := dRng 0 29) (f := fun m : Int => dI m) (fun m => 0 ≤ m ∧ m ≤ 29) rfl (fun H v ⟨x, h1, h2, h3⟩ => ⟨x, ⟨h2, h3⟩, h1⟩) fun m hm => ?_
    have hmb : 0 ≤ m * (2 * gr S z e - 1) ∧ m * (2 * gr S z e - 1) ≤ 29 * 3455 := ⟨Int.mul_nonneg hm.1 (by omega), Int.mul_le_mul hm.2 (by omega) (by omega) (by omega)⟩
    refine sm_seq (r1 := prR p (q + 3) pT) rfl (sm_set (r' := prR p (q + 3) pT) (d := dRng (gr S z e - 1 + m * (2 * gr S z e - 1) + -1) (gr S z e - 1 + m * (2 * gr S z e - 1) + 1)) rfl (em_addV (ed_add (ed_sub ed_var ed_c) (ed_mul ed_var (ed_sub (ed_mul ed_c ed_var (by walk_at "sd")) ed_c) (Or.inl ⟨by omega, by omega⟩))) rfl (em_wk (d := dOne [dI 0, dI (-1), dI 1]) (em_callP1 (n := q + 2) (ema_cons (r1 := prR p (q + 2) pT) rfl em_var (ema_cons (r1 := prR p (q + 2) pT) rfl (em_lst (K := K) rfl (ema_cons (r1 := prR p (q + 2) pT) rfl (em_e ed_c hidr_V) (ema_cons (r1 := prR p (q + 2) pT) rfl (em_e (ed_neg ed_c) hidr_V) (ema_cons (r1 := prR p (q + 2) pT) rfl (em_e ed_c hidr_V) ema_nil))) (by simp)) ema_nil)) ⟨p, q + 2, _, by simp, by omega, rfl, rfl, rfl, rfl⟩ (hidT_one hidT_ints3)) fun H v ⟨d, hd, pd⟩ => ?_))) ?_
    · simp only [List.mem_cons, List.not_mem_nil, or_false] at hd
      rcases hd with rfl | rfl | rfl
      · exact ⟨0, pd, by decide, by decide⟩
      · exact ⟨-1, pd, by decide, by decide⟩
      · exact ⟨1, pd, by decide, by decide⟩
    generalize hbb : gr S z e - 1 + m * (2 * gr S z e - 1) = bb
    refine sm_env (k := 8) (d := dRng (bb + -1) (bb + 1)) (f := fun m : Int => dI m) (fun b => -1 ≤ b ∧ b ≤ 110000) rfl (fun H v ⟨x, h1, h2, h3⟩ => ⟨x, ⟨by omega, by omega⟩, h1⟩) fun b hb => ?_
    refine sm_seq (r1 := prR p (q + 5) pT) rfl (sm_set (r' := prR p (q + 5) pT) (d := dRng (-1) 110000) rfl (em_wk (d := dOne [dI b, dI b, dI b, dRng 0 (100000 - 1)]) (em_callP1 (n := q + 4) (ema_cons (r1 := prR p (q + 3) pT) rfl em_var (ema_cons (r1 := prR p (q + 4) pT) rfl (em_lst (K := K) (r' := prR p (q + 4) pT) rfl (ema_cons (r1 := prR p (q + 3) pT) rfl (em_e ed_var hidr_V) (ema_cons (r1 := prR p (q + 3) pT) rfl (em_e ed_var hidr_V) (ema_cons (r1 := prR p (q + 3) pT) rfl (em_e ed_var hidr_V) (ema_cons (r1 := prR p (q + 4) pT) rfl (em_callP1 (n := q + 3) (ema_cons (r1 := prR p (q + 3) pT) rfl em_var (ema_cons (r1 := prR p (q + 3) pT) rfl (em_e ed_c hidr_V) ema_nil)) ⟨p, q + 3, 100000, by decide, by omega, rfl, rfl, rfl, rfl⟩ hidT_rng) ema_nil)))) (by simp)) ema_nil)) ⟨p, q + 4, _, by simp, by omega, rfl, rfl, rfl, rfl⟩ (hidT_one fun d hd => by
      simp only [List.mem_cons, List.not_mem_nil, or_false] at hd
      rcases hd with rfl | rfl | rfl | rfl
      · exact hidT_V
      · exact hidT_V
      · exact hidT_V
      · exact hidT_rng)) fun H v ⟨d, hd, pd⟩ => ?_)) ?_
    · simp only [List.mem_cons, List.not_mem_nil, or_false] at hd
      rcases hd with rfl | rfl | rfl | rfl
      · exact ⟨b, pd, by omega, by omega⟩
      · exact ⟨b, pd, by omega, by omega⟩
      · exact ⟨b, pd, by omega, by omega⟩
      · obtain ⟨x, h1, h2, h3⟩ := pd
        exact ⟨x, h1, by omega, by omega⟩
    refine sm_seq rfl (sm_set (r' := prR p (q + 5) pT) (d := dRng 0 99999) rfl (em_cb (ds := [dI 0, dRng (min 99999 (-1)) 99999]) rfl (ema_cons rfl (em_e ed_c hidr_V) (ema_cons (r1 := prR p (q + 5) pT) rfl (em_cb (ds := [dI 99999, dRng (-1) 110000]) rfl (ema_cons rfl (em_e ed_c hidr_V) (ema_cons (r1 := prR p (q + 5) pT) rfl (em_cb (ds := [dRng (-1) 110000]) rfl (ema_cons rfl em_var ema_nil) cd_intR hidr_rng) ema_nil)) cd_minR hidr_rng) ema_nil)) (cd_maxR (by decide)) hidr_rng)) ?_
    refine sm_env (k := 10) (d := dRng 0 99999) (f := fun m : Int => dI m) (fun t => 0 ≤ t ∧ t ≤ 99999) rfl (fun H v ⟨x, h1, h2, h3⟩ => ⟨x, ⟨h2, h3⟩, h1⟩) fun t ht => ?_
    refine sm_wk rfl (sm_if (r1 := prR p (q + 5) pT) rfl (tm_not (tm_B (em_callT (n := q + 5) (ema_cons rfl em_var (ema_cons rfl em_var (ema_cons rfl em_var (ema_cons rfl em_var (ema_cons rfl em_var ema_nil))))) ⟨S, z, t, e, w, ht, rfl, rfl, rfl, rfl⟩))) (fun hb => absurd hb (by decide)) (fun _ => sm_next)) ?_
    exact wk_c (wk_c (wk_c (wk_c (wk_c (wk_c (wk_n (wk_n (wk_n (wk_n (wk_n wk_0))))))))))
end
end Sl
/-! SlLw: a comprehension over a range whose items change the region; law. -/
namespace Sl
open PySem PySem.Spec PyProof.Rows L2 StX RZ LamX
open Evl (Ex ex_l ex_t ex_rd sq_of st_of sz_of sz_lt fresh_back)
local macro_rules | `(tactic| walk_at "sd") => `(tactic| first | assumption | omega | decide | (constructor <;> assumption) | (constructor <;> omega))
section
variable {K : PySem.W.Frag}
theorem hideL_mut {as : List Addr} {H H2 : Hp} {D : Addr} {o : HO} (e : Ex (hideL as H) (hideL as H2)) (hD : H D = none) : Ex (hideL as H) (hideL as (upd H2 D o)) := fun b u h => by
  have hb : b ∉ as := fun hm => by rw [hideL_in hm] at h; cases h
  have h2 := e b u h
  rw [hideL_at hb] at h h2 ⊢
  rw [upd_ne (fun z => by rw [z, hD] at h; cases h)]
  exact h2
theorem em_lcR {n i0 : Nat} {te : TE} {x : V} {ρ : Rho} (rs : Nat → Rg) (as : List Addr) (ha : ∀ i, (rs i).as = as) (hJ : ∀ i H D xs ys, (rs i).J H → H D = some (.lst xs) → D ∉ as → (rs i).J (upd H D (.lst ys))) (hn : n ≤ 1000)
    (ht : ∀ i : Nat, i < n → Em (rs i) (rs (i + 1)) te ((wpR ρ [i0]).set i0 (some (dI (i : Int)))) (dV x)) : Em (rs 0) (rs n) (tLc (iRng1 (tCons (tC (.int (n : Int))) tNil)) (gName i0) tYes te [i0]) ρ (dLst K (List.replicate n (dV x))) := fun H σ e Q q => by
  obtain ⟨j0, en⟩ := e
  rw [ha] at en q
  refine ⟨(n : Int), rfl, by omega, by omega, fun D hD => ?_⟩
  have hDa : D ∉ as := fun hm => (rs 0).live j0 D (by rw [ha]; exact hm) hD
  have w := walk_range (lo := 0) (n := n)
  refine ⟨fun i m H2 => m = n - i ∧ i ≤ n ∧ (rs i).J H2 ∧ Ex (hideL as H) (hideL as H2) ∧ H2 D = some (.lst (List.replicate i x)), ⟨_, rfl, Nat.zero_le _, (rs 0).mono (Ex.new hD) j0, hideL_mono (Ex.new hD), upd_same⟩, ?_⟩
  rintro i m H2 ⟨rfl, hi, j2, e2, hacc⟩
  by_cases hlt : i < n
  · right
    refine ⟨w.goes i H2 hlt trivial, fun H' => i + 1 ≤ n ∧ (rs (i + 1)).J H' ∧ Ex (hideL as H) (hideL as H') ∧ H' D = some (.lst (List.replicate (i + 1) x)), fun H' ⟨h1, h2, h3, h4⟩ => ⟨n - (i + 1), by omega, rfl, h1, h2, h3, h4⟩, fun y H3 yy => ?_⟩
    obtain ⟨rfl, hx⟩ := w.yields i H2 y H3 hlt trivial yy
    have hx' : y = .int (i : Nat) := by
      have : y = .int (0 + i) := hx
      rw [Int.zero_add] at this
      exact this
    subst hx'
    have en2 : EnvOk (hideL as H3) ((wpR ρ [i0]).set i0 (some (dI (i : Int)))) ((L2.wipe σ [i0]).set i0 (some (.int i))) := ((en.mono e2).wipe [i0]).set (d := dI (i : Int)) rfl i0
    refine ⟨(wipe_set List.mem_cons_self).trans (ed_lc.wipe_wipe (α := Nat) []), ?_⟩
    unfold tYes
    dsimp only
    rw [if_pos rfl]
    refine ht i hlt H3 _ ⟨j2, by rw [ha]; exact en2⟩ _ fun v H4 j4 e4 pv => ?_
    have pv : v = x := pv
    subst pv
    rw [ha] at e4
    have h4 : H4 D = some (.lst (List.replicate i v)) := by
      have := e4 D _ (by rw [hideL_at hDa]; exact hacc)
      rwa [hideL_at hDa] at this
    refine ⟨_, h4, sz_lt (by rw [List.length_replicate]; omega), hlt, hJ _ _ _ _ _ j4 h4 hDa, hideL_mut (e2.trans e4) hD, ?_⟩
    rw [upd_same, ← List.replicate_succ']
  · left
    have ei : i = n := by omega
    subst ei
    refine ⟨w.stops H2 trivial, q _ H2 j2 e2 ⟨D, _, rfl, by rw [hideL_at hDa]; exact hacc, ?_⟩⟩
    have := All2.of_vals (H := hideL as H2) (fun _ : Nat => x) (List.replicate i 0)
    simpa using this
theorem pr_mut {p T : Addr} {n : Nat} {H : Hp} {D : Addr} {xs ys : List V} (j : (prR p n T).J H) (h : H D = some (.lst xs)) (hD : D ∉ [p, T]) : (prR p n T).J (upd H D (.lst ys)) := by
  obtain ⟨⟨x, y, z, h1, hp⟩, ps, h2, h3, h4⟩ := j
  have n1 : p ≠ D := fun e => hD (e ▸ List.mem_cons_self)
  have n2 : T ≠ D := fun e => hD (e ▸ List.mem_cons_of_mem _ List.mem_cons_self)
  refine ⟨⟨x, y, z, by rw [upd_ne n1]; exact h1, hp⟩, ps, by rw [upd_ne n2]; exact h2, h3, fun pos cv hc => ?_⟩
  obtain ⟨c, e1, e2⟩ := h4 pos cv hc
  refine ⟨c, e1, ?_⟩
  rw [upd_ne fun e => by
    rw [e, h] at e2
    cases e2]
  exact e2
/-- a pot is made, used, forgotten -/
theorem sm_mkpot {T : Addr} {i n : Nat} {te : TE} {s2 : TS} {ρ ρ2 : Rho} (h : EdF te ρ dPot) (hs : ∀ p, Sm (prR p 0 T) s2 (ρ.set i (some (dV (.ref p)))) (.nx (prR p n T) ρ2)) : Sm (tabR T) (tSeq (tAsg te (gName i)) s2) ρ (.nx (tabR T) ρ2) := fun H σ D e k => h H σ (rg_same H σ e) _ fun v H1 e1 ⟨p, x, y, hv, h1, hp⟩ ⟨a, ha, hn⟩ => by
  subst hv
  injection ha with ha
  subst ha
  have sub : ∀ a ∈ [T], a ∈ [p, T] := fun a ha => List.mem_cons_of_mem _ ha
  have ex1 : Ex (hideL [T] H) (hideL [p, T] H1) := fun b o hb => by
    have hbT : b ∉ [T] := fun hm => by rw [hideL_in hm] at hb; cases hb
    rw [hideL_at hbT] at hb
    have hbp : b ≠ p := ne_of_none hb hn
    rw [hideL_at (show b ∉ [p, T] from fun hm => (List.mem_cons.mp hm).elim hbp hbT)]
    exact e1 b o hb
  have en1 : EnvOk (hideL [p, T] H1) ρ σ := e.2.mono ex1
  refine hs p H1 (σ.set i (some (.ref p))) D ⟨⟨⟨x, y, 0, h1, hp⟩, TabS.ext e.1 e1⟩, en1.set (d := dV (.ref p)) rfl i⟩ fun σ' H' j' e' en' => k σ' H' j'.2 (fun b o hb => ?_) (en'.mono (hideL_sub sub))
  exact hideL_sub sub _ _ (e' _ _ (ex1 _ _ hb))
end
section
variable {P : Program} {w : World} {K : PySem.W.Frag} {mg : Str → Option Value} {base : Heap}
def R_law (K : PySem.W.Frag) (pT : Addr) : List Dt → Rg → Rg → Dt → Prop := fun ds r r2 d => ∃ ns : List Int, ns.length ≤ 63 ∧ ds = [dSq K (ns.map V.int)] ∧ r = tabR pT ∧ r2 = tabR pT ∧ d = dB true
abbrev N_law : List Str := ["_law_script", "_law_k", "_law_pot_here", "_law_turn"]
theorem sc_law : FnScope N_law ["_law_script"] (defScope s_law) := ⟨rfl, rfl, rfl, by decide +kernel, rfl, by decide +kernel, by decide +kernel⟩
theorem fn_law (T : Tx w K mg) (Z : TmX P K mg) (Y : ErrX K) (TB : TabB base mg (He.codeOf K aSR) (He.cT K aSR).2) : FnG P w K mg base 14 "law" (spM (R_law K (He.cT K aSR).2)) := by
  obtain ⟨fd, F⟩ := T.f_law
  have nd := sc_law.nd
  refine fn_G F sc_law T.g_law (F.bindsN fun _ _ _ _ _ _ us hl => match us, hl with | [_], _ => rfl) (by rintro vs H Q E ⟨ds, r, r2, d, ⟨ns, c0, rfl, rfl, rfl, rfl⟩, _, h, _⟩; rw [← h.len]; rfl) (fun cdv A outer s H vs Q E hgA hr hsp => ?_)
  obtain ⟨ds, r, r2, d, ⟨ns, c0, rfl, rfl, rfl, rfl⟩, j, h, q⟩ := hsp
  have hu := hu_of hr
  have hu65 := hu65 hr
  replace hgA : (A.deeper (envOfC "law" (defScope s_law) s.heap.objs.size (He.fAd K ("law", none)) cdv)).guards = some [] := hgA
  refine ⟨_, (pss_cons (ps_for PassesOwn.never rfl (pi_r1 T.b_range (pa_cons (pe_bi (call_max2 (by rfl)) T.b_max (by decide +kernel) (pa_cons pe_int (pa_cons (pe_bi (call_min2 (by rfl)) T.b_min (by decide +kernel) (pa_cons pe_int (pa_cons (pe_bi (crK_len K) T.b_len (by decide +kernel) (pa_cons (pv 0) pa_nil)) pa_nil))) pa_nil))) pa_nil)) (pg_name (i := 1) nd rfl (Or.inl rfl)) (pss_cons (ps_set (i := 2) nd rfl (Or.inr rfl) (pe_callF (fn_law_pot T) (hr.mono (by decide)) (pa_cons (pv 0) (pa_cons (pv 1) pa_nil)))) (pss_one (ps_if (pt_not (pt_val (pe_bi (crK_all K) T.b_all (by decide +kernel) (pa_cons (pe_lc (own := [("_law_turn", 3)]) (by rfl) nd (pi_r1 T.b_range (pa_cons pe_int pa_nil)) (blkOk_by (N := N_law) (sc := defScope s_law) (by decide +kernel)) (fun _ _ _ _ _ => (pg_name (i := 3) nd rfl (Or.inl rfl))) (fun _ _ _ _ _ => pts_nil) (fun _ _ _ _ _ => (pe_callG (fn_law_right T Z Y TB) hgA hr (pa_cons (pv 2) pa_nil)))) pa_nil)))) (pss_one (ps_ret pe_bl)) pss_nil)))) (pss_one (ps_ret pe_bl))), ?_⟩
  have hcore : ∀ {t : TS}, Sm (tabR (He.cT K aSR).2) t ([some (dSq K (ns.map V.int))] ++ List.replicate 3 none) (.ret (tabR (He.cT K aSR).2) (dB true)) → t { nx := fun _ H' => Q .non H', rt := Q } (L2.start N_law vs) H := fun {t} hs => by
    refine hs H _ _ ⟨j, ?_⟩ fun v H' j' e' p' => q v H' j' e' p'
    unfold L2.start
    have := EnvOk.start h (N_law.length - vs.length)
    rw [← h.len]
    rw [← h.len] at this
    exact this
  refine hcore ?_
  generalize (He.cT K aSR).2 = pT at *
  have hM : 1 ≤ (if (if ((ns.map V.int).length : Int) < 2 then ((ns.map V.int).length : Int) else 2) > 1 then (if ((ns.map V.int).length : Int) < 2 then ((ns.map V.int).length : Int) else 2) else 1) ∧ (if (if ((ns.map V.int).length : Int) < 2 then ((ns.map V.int).length : Int) else 2) > 1 then (if ((ns.map V.int).length : Int) < 2 then ((ns.map V.int).length : Int) else 2) else 1) ≤ 2 := by
    constructor <;> split <;> split <;> omega
  refine sm_seq rfl (sm_forN (m := if (if ((ns.map V.int).length : Int) < 2 then ((ns.map V.int).length : Int) else 2) > 1 then (if ((ns.map V.int).length : Int) < 2 then ((ns.map V.int).length : Int) else 2) else 1) (fun _ => tabR pT) [pT] (fun _ => rfl) (em_e (ed_cb (eda_cons ed_c (eda_cons (ed_cb (eda_cons ed_c (eda_cons (ed_cb (eda_cons ed_var eda_nil) cd_lenSq) eda_nil)) cd_min2) eda_nil)) cd_max2) hidr_V) rfl ?_ fun i hi => ⟨_, gdm_name, ?_⟩) (sm_ret (em_e ed_c hidr_V))
  · omega
  · have hi2 : i ≤ 1 := by omega
    refine sm_wk rfl (sm_mkpot (n := 4000) (ρ2 := [some (dSq K (ns.map V.int)), some (dI (i : Int)), none, none]) (edF_call (eda_cons ed_var (eda_cons ed_var eda_nil)) ⟨ns, i, c0, ⟨by omega, by omega⟩, rfl, rfl⟩) fun p => ?_) (wk_c (wk_n (wk_n (wk_n wk_0))))
    refine sm_wk rfl (sm_if (r1 := prR p 4000 pT) rfl (tm_not (tm_B (em_cb (ds := [dLst K ([true, true].map fun b => dB b)]) rfl (ema_cons (r1 := prR p 4000 pT) rfl (em_lcR (n := 2) (x := .bl true) (fun i => prR p (2000 * i) pT) [p, pT] (fun _ => rfl) (fun i H D xs ys j h hD => pr_mut j h hD) (by decide) fun i hi => em_call rfl (ema_cons rfl (em_var (i := 2)) ema_nil) ⟨p, 2000 * i, by omega, rfl, rfl, rfl, rfl⟩) ema_nil) cd_all hidr_V))) (fun hb => absurd hb (by decide)) (fun _ => sm_next)) (wk_c (wk_c (wk_n (wk_n wk_0))))
end
end Sl
/-! SlEnd: the law called by its caller, one table of code objects, no repr under way. -/
namespace Sl
open PySem PySem.Spec PyProof.Rows L2 StX RZ LamX
open Evl (Ex ex_l ex_t ex_rd sq_of st_of sz_of sz_lt fresh_back)
/-- the heap that is tracked at the call: the table, and the script's list where the written part holds none -/
def H0 (K : PySem.W.Frag) (a T : Addr) (vs : List Value) (ns : List Int) : Hp := fun b => if b = T then some (.tbl #[]) else if b = a ∧ K.lookup a = none then some (.frz { cls := .type "list", data := .seq vs.toArray } (.lst (ns.map V.int))) else none
section
variable {P : Program} {w : World} {K : PySem.W.Frag} {mg mb : Str → Option Value} {fa a c T : Addr} {s₁ : Shared} {vs : List Value} {ns : List Int}
theorem h0_T : H0 K a T vs ns T = some (.tbl #[]) := if_pos rfl
theorem h0_a (h : a ≠ T) (k : K.lookup a = none) : H0 K a T vs ns a = some (.frz { cls := .type "list", data := .seq vs.toArray } (.lst (ns.map V.int))) := (if_neg h).trans (if_pos ⟨rfl, k⟩)
theorem h0_no {b : Addr} (h1 : b ≠ T) (h2 : ¬ (b = a ∧ K.lookup a = none)) : H0 K a T vs ns b = none := (if_neg h1).trans (if_neg h2)
theorem h0_at {b : Addr} {o : HO} (h : H0 K a T vs ns b = some o) : (b = T ∧ o = .tbl #[]) ∨ (b = a ∧ K.lookup a = none ∧ o = .frz { cls := .type "list", data := .seq vs.toArray } (.lst (ns.map V.int))) := by
  by_cases h1 : b = T
  · subst h1
    rw [h0_T] at h
    cases h
    exact .inl ⟨rfl, rfl⟩
  · by_cases h2 : b = a ∧ K.lookup a = none
    · obtain ⟨rfl, k⟩ := h2
      rw [h0_a h1 k] at h
      cases h
      exact .inr ⟨rfl, k, rfl⟩
    · rw [h0_no h1 h2] at h
      cases h
theorem law_end (KX : K.In s₁.heap) (hns : s₁.heap.Ns mainGlobals mg) (hb : s₁.heap.Ns builtinsNs mb) (hbb : ∀ x : Str, x ≠ "__name__" → mb x = bootBuiltins x) (hlim : s₁.heap.NoLimit) (hg : s₁.gens = #[])
    (hT : s₁.heap.get? T = some { cls := .none, data := .fields #[] }) (nT : K.lookup T = none) (C : PySem.W.CodeHd s₁.heap c T)
    (hbm : ∃ (bm : Addr) (ob : Obj), mg "__builtins__" = some (.ref bm) ∧ bm ≠ builtinsNs ∧ s₁.heap.get? bm = some ob ∧ ob.cls = .type "module" ∧ ob.dict = some builtinsNs ∧ ob.data = .plain)
    (ha : s₁.heap.get? a = some { cls := .type "list", data := .seq vs.toArray }) (hi : IntsAre vs ns) (hl : ns.length ≤ sizeLine)
    (F : ∀ (base : Heap) (H : Hp), K.In base → base.Ns mainGlobals mg → TabB base mg c T → Env0 P w K mg base callerA [] s₁ H → H T = some (.tbl #[]) → SqL K H a (ns.map V.int) →
      codeAny (model P w) callerA (.call (.ref fa) ⟨[.ref a], []⟩) (CR CX0 [] P w H s₁ (fun v _ => v = .bl true) E0) s₁) :
    codeAny (model P w) callerA (.call (.ref fa) ⟨[.ref a], []⟩) (fun r s' => r = .ok (.ret (.bool true)) ∧ OldK s₁.heap s'.heap ∧ s'.os = s₁.os ∧ AllBare s'.gens) s₁ := by
  have rv := vals_ints hi
  have lenV := hi.length
  have aT : a ≠ T := fun z => by
    rw [z, hT] at ha
    injection ha with ha
    injection ha
    contradiction
  obtain ⟨H, eH⟩ : ∃ H, H = H0 K a T vs ns := ⟨_, rfl⟩
  have free : ∀ {b : Addr} {o : Obj}, s₁.heap.get? b = some o → (∀ us n, o.data ≠ .seq us n) → o.data ≠ .fields #[] → H b = none := fun {b o} e h1 h2 => by
    cases q : H b with
    | none => rfl
    | some u =>
      rw [eH] at q
      rcases h0_at q with ⟨rfl, _⟩ | ⟨rfl, _, _⟩
      · rw [hT] at e
        cases e
        exact absurd rfl h2
      · rw [ha] at e
        cases e
        exact absurd rfl (h1 _ _)
  have keepB : ∀ {b : Addr} {o : Obj}, s₁.heap.get? b = some o → (∀ us n, o.data ≠ .seq us n) → o.data ≠ .fields #[] → (hidT s₁.heap H).get? b = some o := fun e h1 h2 => hidT_get e (free e h1 h2)
  have nsK : ∀ {b : Addr} {m : Str → Option Value}, s₁.heap.Ns b m → (hidT s₁.heap H).Ns b m := fun {b m} ⟨o, es, ep, e, d, r⟩ => ⟨o, es, ep, keepB e (fun us n z => by rw [d] at z; cases z) (fun z => by rw [d] at z; cases z), d, r⟩
  have hKb : K.In (hidT s₁.heap H) := fun b o e => hidT_get (KX b o e) (by
    cases q : H b with
    | none => rfl
    | some u =>
      rw [eH] at q
      rcases h0_at q with ⟨rfl, _⟩ | ⟨rfl, k, _⟩
      · rw [nT] at e
        cases e
      · rw [k] at e
        cases e)
  have hok : HOk P w H s₁.heap := fun b u q => by
    rw [eH] at q
    rcases h0_at q with ⟨rfl, rfl⟩ | ⟨rfl, k, rfl⟩
    · exact hT
    · exact ⟨ha, by rw [List.length_map]; exact hl, vs, _, rv, ha⟩
  have hS : SqL K H a (ns.map V.int) := by
    cases k : K.lookup a with
    | none => exact .inl (.inr ⟨_, by rw [eH]; exact h0_a aT k⟩)
    | some o =>
      have e := KX a o k
      rw [ha] at e
      cases e
      exact .inr ⟨_, vs.toArray, _, k, rfl, rfl, rfl, by rw [List.size_toArray, lenV]; exact hl, by simpa using rv⟩
  have hHT : H T = some (.tbl #[]) := by rw [eH]; exact h0_T
  have TB : TabB (hidT s₁.heap H) mg c T := by
    refine ⟨?_, ?_, fun z => ?_⟩
    · obtain ⟨o, us, file, tf, flags, tg, inF, text, tt, e1, r1, r2, r3, rest⟩ := C
      exact ⟨o, us, file, tf, flags, tg, inF, text, tt, keepB e1 (fun us n z => by rw [r2] at z; cases z) (fun z => by
        rw [r2] at z
        cases z
        simp at r3), r1, r2, r3, rest⟩
    · obtain ⟨bm, ob, b1, b2, b3, b4, b5, b6⟩ := hbm
      refine ⟨bm, ob, b1, b2, fun q => ?_, fun q => ?_, keepB b3 (fun us n z => by rw [b6] at z; cases z) (fun z => by rw [b6] at z; cases z), b4, b5, b6⟩
      · obtain ⟨o, es, ep, e, hd, _⟩ := hns
        rw [q, e] at b3
        cases b3
        rw [hd] at b6
        cases b6
      · rw [q, hT] at b3
        cases b3
        cases b6
    · obtain ⟨o, es, ep, e, hd, _⟩ := hns
      rw [z, hT] at e
      cases e
      cases hd
  have hM : L2.Mod K mg (hidT s₁.heap H) := ⟨hKb, nsK hns, ⟨mb, nsK hb, hbb⟩, let ⟨mc, h1, h2⟩ := hlim; ⟨mc, nsK h1, h2⟩⟩
  have e0 : Env0 P w K mg (hidT s₁.heap H) callerA [] s₁ H := ⟨rfl, hM, fun b o e => of_hidT e, Nat.le_of_eq (hidT_size _ _), trivial, fun b hb => absurd (show b ∈ ([] : List Addr) from hb) (by simp), hok, .of_eq hg⟩
  refine codeAny_mono (F _ H hKb (nsK hns) TB e0 hHT hS) fun r s' h => ?_
  match r, h with
  | .error e, h => exact (show False from h).elim
  | .ok (.ret u), h =>
    obtain ⟨v, H', os, bare, un, hok', r', q⟩ := h
    have q' : v = .bl true := q
    subst q'
    obtain rfl : u = Value.bool true := r'
    obtain ⟨more, hm⟩ := un.tbls T #[] hHT
    have grown : s'.heap.get? T = some { cls := .none, data := .fields (#[] ++ more) } := hok' T _ hm
    have key : ∀ b o, b ≠ T → s₁.heap.get? b = some o → s'.heap.get? b = some o := fun b o n e => by
      by_cases hba : b = a ∧ K.lookup a = none
      · obtain ⟨rfl, k⟩ := hba
        have z2 := un.frzs b _ _ (by rw [eH]; exact h0_a n k)
        obtain ⟨e2, _⟩ := hok' b _ z2
        rw [ha] at e
        cases e
        exact e2
      · exact un.keep b o e (by rw [eH]; exact h0_no n hba) (fun z => absurd (show b ∈ ([] : List Addr) from z) (by simp)) (by simp)
    refine ⟨rfl, ⟨fun b o e => ?_, fun b o e => ?_⟩, os, bare⟩
    · by_cases hb : b = T
      · subst hb
        rw [hT] at e
        cases e
        exact .inr (.inl ⟨(C.tab hT).isCodeTable, rfl, #[], more, rfl, grown⟩)
      · exact .inl (key b o hb e)
    · by_cases hb : b = T
      · subst hb
        exact ⟨_, grown⟩
      · exact ⟨o, key b o hb e⟩
end
end Sl
/-! SlFin: the head's facts, the law's row. -/
namespace Sl
open PySem PySem.Spec PyProof.Rows L2 StX RZ LamX
theorem excB_ok {K : PySem.W.Frag} {C : Addr} (h : excB K C = true) : ∃ nm q N bs bm sn sub ab col dd k0 k1 k2 k3 k5, K.lookup C = some (excClassObj nm q C N bs bm true sn sub ab col dd k0 k1 k2 k3 k5 "ValueError.__new__") ∧ PySem.HandSPX.refsVE bm = true := by
  unfold excB at h
  split at h
  · rename_i t dd cd sl hk
    split at h
    · rename_i C' bm k0 k1 k2 k3 n k5 hm hs
      obtain ⟨h1, h⟩ := He.ba h
      obtain ⟨h2, h⟩ := He.ba h
      obtain ⟨h3, h⟩ := He.ba h
      obtain ⟨h4, h⟩ := He.ba h
      obtain ⟨h5, h6⟩ := He.ba h
      have h1 := of_decide_eq_true h1
      have h2 := of_decide_eq_true h2
      have h3 := of_decide_eq_true h3
      subst h1 h2 h3
      obtain ⟨nm, bs, mro, ns, qn, hd, sn, sb, ab, col, del⟩ := cd
      dsimp only at hm h4 h5
      subst hm
      have h4 : del = false := by cases del <;> simp_all
      subst h4 h5
      refine ⟨nm, qn, ns, bs, bm, sn, sb, ab, col, dd, k0, k1, k2, k3, k5, ?_, h6⟩
      rw [hk]
      have : sl = #[k0, k1, k2, k3, some (.builtin "ValueError.__new__"), k5] := Array.ext' hs
      rw [this]
    · cases h
  · cases h
theorem fileB_ok {K : PySem.W.Frag} {file : Str} {c : Addr} (h : fileB K file c = true) : ∃ (oc : Value) (od : Option Addr) (osl : Array (Option Value)) (vs : Array Value) (f : Str) (tf : Tok), K.lookup c = some ⟨oc, od, .fields vs, osl⟩ ∧ vs[2]? = some (.str f tf) ∧ (file == f) = true := by
  unfold fileB at h
  split at h
  · rename_i oc od vs osl hk
    split at h
    · rename_i f tf hv
      exact ⟨oc, od, osl, vs, f, tf, hk, hv, h⟩
    · cases h
  · cases h
theorem cellB_ok {K : PySem.W.Frag} {c D : Addr} (h : cellB K c D = true) : ∃ (oc : Value) (od : Option Addr) (osl : Array (Option Value)), K.lookup c = some ⟨oc, od, .cell (some (.ref D)), osl⟩ := by
  unfold cellB at h
  split at h
  · rename_i oc od D' osl hk
    have := of_decide_eq_true h
    subst this
    exact ⟨oc, od, osl, hk⟩
  · cases h
theorem tm_ok {P : Program} {K : PySem.W.Frag} {h : Heap} {mg : Str → Option Value} (X : K.In h) (G : h.Ns mainGlobals mg) (hb : tmB P.main.file K = true) (hw : leW K = leVal) (ht : (P.main.scope.names.lookup ("super" : Str)).isSome = false) : TmX P K mg ∧ ErrX K := by
  unfold tmB at hb
  obtain ⟨h1, hb⟩ := He.ba hb
  obtain ⟨h2, hb⟩ := He.ba hb
  obtain ⟨h3, hb⟩ := He.ba hb
  obtain ⟨h4, hb⟩ := He.ba hb
  obtain ⟨h5, hb⟩ := He.ba hb
  obtain ⟨h6, hb⟩ := He.ba hb
  obtain ⟨h7, hb⟩ := He.ba hb
  obtain ⟨h8, hb⟩ := He.ba hb
  obtain ⟨h9, hb⟩ := He.ba hb
  obtain ⟨h10, hb⟩ := He.ba hb
  obtain ⟨h11, hb⟩ := He.ba hb
  obtain ⟨h12, hb⟩ := He.ba hb
  obtain ⟨h13, hb⟩ := He.ba hb
  obtain ⟨h14, hb⟩ := He.ba hb
  obtain ⟨h15, hb⟩ := He.ba hb
  obtain ⟨h16, h17⟩ := He.ba hb
  have hfn : ∃ (oc : Value) (od : Option Addr) (osl : Array (Option Value)) (doc pm : Value) (an : Option Addr) (ct : Value) (cda cc : Addr),
      K.lookup (aLI K) = some ⟨oc, od, .func (PySem.W.ksFn "__init__" "LabelError.__init__" (defArgs s_LE) (defBody s_LE) (defScope s_LE) .none .none doc pm an (.ref cda) ct cc), osl⟩ ∧ PySem.W.codeIn K (.ref cda) "LabelError.__init__" = true ∧ fileB K P.main.file cda = true ∧ cellB K cc (aLE K) = true := by
    unfold leC at h9
    unfold leW at hw
    split at h9
    · rename_i oc od fd osl hk
      rw [hk] at hw
      split at h9
      · rename_i cda x cc hcd hcl
        obtain ⟨g1, h9⟩ := He.ba h9
        obtain ⟨g2, h9⟩ := He.ba h9
        obtain ⟨g3, g4⟩ := He.ba h9
        have g1 := of_decide_eq_true g1
        subst g1
        have hw : (some (fd.name, fd.qualname, fd.params, fd.body, fd.scope, fd.globals, fd.builtins, fd.defaults, fd.kwdefaults) : LeT) = leVal := hw
        unfold leVal at hw
        simp only [Option.some.injEq, Prod.mk.injEq] at hw
        obtain ⟨e1, e2, e3, e4, e5, e6, e7, e8, e9⟩ := hw
        obtain ⟨name, qual, params, body, scope, globals, closure, dV, kV, doc, pm, an, cdv, ct, blt⟩ := fd
        dsimp only at e1 e2 e3 e4 e5 e6 e7 e8 e9 hcd hcl
        subst e1 e2 e3 e4 e5 e6 e7 e8 e9 hcd hcl
        exact ⟨oc, od, osl, doc, pm, an, ct, cda, cc, hk, g2, g3, g4⟩
      · cases h9
    · cases h9
  obtain ⟨oc, od, osl, doc, pm, an, ct, cda, cc, f1, f2, f3, f4⟩ := hfn
  obtain ⟨cd, hcd⟩ := Option.isSome_iff_exists.mp h10
  refine ⟨⟨⟨⟨excB_ok h1, of_decide_eq_true h2, of_decide_eq_true h3, of_decide_eq_true h4, h5⟩, ⟨⟨oc, od, osl, doc, pm, an, ct, cda, cc, f1, f2, fileB_ok f3, cellB_ok f4⟩, ⟨cd, hcd⟩, of_decide_eq_true h11, of_decide_eq_true h12, of_decide_eq_true h13, of_decide_eq_true h14, ht⟩,
    of_decide_eq_true h6, of_decide_eq_true h7, of_decide_eq_true h8⟩, ?_⟩, ⟨of_decide_eq_true h15, xfB_ok h16⟩⟩
  exact PySem.W.mg_none_of X G (of_decide_eq_true h17)
abbrev LL : PySem.W.OpenLaw := PySem.Challenge.rw_steadylabels_k71_whole_no_strip_is_enoug
theorem sq_hide {K : PySem.W.Frag} {H : Hp} {a T : Addr} {ps : Array Value} {xs : List V} (hT : H T = some (.tbl ps)) (h : SqL K H a xs) : SqL K (hideL [T] H) a xs := by
  rcases h with (h | ⟨o, h⟩) | h
  · exact .inl (.inl (hidT_at hT (fun q z => nomatch z) h))
  · exact .inl (.inr ⟨o, hidT_at hT (fun q z => nomatch z) h⟩)
  · exact .inr h
theorem walk : PySem.W.WalkO qv names (PySem.W.XL qv []) hk.says LL.row.toRowW (HandSHeadRun.topDef RR.prog 140) [] (fun f vs => PySem.call f vs) := by
  refine Att.attach_callB (l := LL) (n := 63) rfl (by kernel_rfl) fun w s₀ s₁ mg mb fa o pm cd doc a vs ns G Y ho hd hcd hmg hobj hints hlen hbits hg => ?_
  obtain ⟨K, KX, c1, c2, c3, c4⟩ := Y
  have T : Tx w K mg := ⟨⟨_, KX, G.T.g, c1⟩, c2⟩
  obtain ⟨Z, Y2⟩ := tm_ok (P := LL.prog) KX G.T.g c3 c4 (by kernel_rfl)
  have hm : aSR ∈ lams := List.mem_singleton.mpr rfl
  have hmg : mg ("law" : Str) = some (.ref fa) := by
    have e : (HandSHeadRun.topDef RR.prog 140).name = ("law" : Str) := by kernel_rfl
    rw [← e]
    exact hmg
  refine law_end KX G.T.g G.T.b G.T.builtins G.T.nolimit hg (c1.empty aSR hm) (c1.out aSR hm) (PySem.W.codeHd_of_K KX (c1.hd aSR hm)) G.T.bmain hobj hints (Nat.le_trans hlen (by decide)) fun base H hKb hGb TB e0 hHT hS => ?_
  obtain ⟨f, h1, _, run⟩ := (fn_law (P := LL.prog) (base := base) T Z Y2 TB).ex
  rw [hmg] at h1
  cases h1
  exact run callerA [] s₁ H [.ref a] [.ref a] (fun v _ => v = .bl true) E0 rfl ⟨rfl, by decide, by decide⟩ e0 (.cons rfl .nil)
    ⟨[dSq K (ns.map V.int)], tabR _, tabR _, dB true, ⟨ns, hlen, rfl, rfl, rfl, rfl⟩, TabS.nil hHT, ⟨⟨a, rfl, sq_hide hHT hS⟩, True.intro⟩, fun v H' _ _ p => p⟩
end Sl
open PySem PySem.W PySem.Calls PyProof.Rows
theorem PySem.Challenge.cw_steadylabels_k71_whole_no_strip_is_enoug_holds : PySem.Challenge.rw_steadylabels_k71_whole_no_strip_is_enoug.Holds := by
  w_on; o_law
  refine HandSHeadRun.head_any (r := Sl.RR) (q := Sl.qv) (H := Sl.hk) (ob := Sl.ob) (M := 8000) (loose := Sl.names) (d := HandSHeadRun.topDef Sl.RR.prog 140) (kwd := []) Sl.ob_eq
    (by kernel_rfl) (fun s => by kernel_rfl) Sl.run (by kernel_rfl) (by kernel_rfl) (by kernel_rfl) (by rfl) (by first | assumption | decide +kernel) (by decide +kernel) ⟨rfl, rfl, rfl, rfl, rfl, by decide +kernel⟩ ?hw ?hc
  case hw => w_witness2
  case hc => exact Sl.walk

import PyProof.Rows.All
import Wide.All
import OpenK.AllK
import Wide.FinOn
import HandS.ForMost
import HandS.ExcInit
import HandS.ExcField
import HandS.HeadHook4
import HandS.HeadWalk
import HandS.Head2
import HandS.TupAny
import HandS.Deep
import HandS.Zip
import HandS.IsInst
import HandS.Style
import HandS.Strs
import HandS.SetKeys
import KE.KDictKeyed
import KE.KDictLaw
import KE.KeyNested
import HandS.Lambda
import HandS.ReplaceList
import KE.SortKeyHeap
import KE.DataFind
import KE.DataCmp
import HandS.SetFor
import HandS.Text
import HandS.Conv
import PyProof.SeqIndex
import PyProof.StrCalls6
import HandS.Small
import PyProof.Rows.SeqRoads
import KE.KDictZip
import KE.KDictSum
import PyProof.ListNew
import HandS.More
import KE.GoesEnum
import KE.GoesMore
import KE.KDictWalk
import HandS.Keys
import HandS.Iter
import HandS.SortKw
import HandS.Nested
import HandS.WordsExc
import PySem.Challenge.RW_pivotfold_k72_whole_everyday_tables
set_option Elab.async false
set_option linter.all false
set_option maxRecDepth 100000
/-! ## the text by places -/
namespace Ev
open PySem L2
def top (i : Nat) : Stmt := PySem.Challenge.pw_pivotfold_k72_whole_everyday_tables.main.body.getD i (.Pass ⟨0, 0, 0, 0⟩)
def s_is_number : Stmt := (top 12)
def s_rank : Stmt := (top 13)
def s_ranks : Stmt := (top 14)
def s_stands_ahead : Stmt := (top 15)
def s_risen : Stmt := (top 16)
def s_places_of : Stmt := (top 18)
def s_at_places : Stmt := (top 19)
def s_parts_of : Stmt := (top 21)
def s_kept : Stmt := (top 22)
def s_numbers_by : Stmt := (top 23)
def s_look_parted : Stmt := (top 27)
def s_look_order : Stmt := (top 28)
def s_unlike_ones : Stmt := (top 29)
def s_heads_by : Stmt := (top 30)
def s_look_doubles : Stmt := (top 31)
def s_wide_of : Stmt := (top 32)
def s_folded : Stmt := (top 33)
def s_unfolded : Stmt := (top 34)
def s_gaps : Stmt := (top 35)
def s_sum_of : Stmt := (top 38)
def s_last_of : Stmt := (top 39)
def s_put_together : Stmt := (top 40)
def s_look_ways : Stmt := (top 42)
def s_rows_at : Stmt := (top 44)
def s_cell_of : Stmt := (top 45)
def s_folded_by : Stmt := (top 46)
def s_look_unlike : Stmt := (top 47)
def s_sources : Stmt := (top 48)
def s_rolled : Stmt := (top 51)
def s_cut_tuples : Stmt := (top 52)
def s_cells_together : Stmt := (top 53)
def s_look_ways2 : Stmt := (top 54)
def s_added : Stmt := (top 56)
def s_margins : Stmt := (top 57)
def s_holds : Stmt := (top 65)
def s_look_columns : Stmt := (top 66)
def s_look_words : Stmt := (top 67)
def s_looked : Stmt := (top 68)
def s_rows_where : Stmt := (top 69)
def s_look_question : Stmt := (top 70)
def s_each_once : Stmt := (top 71)
def s_answer : Stmt := (top 72)
def s_answer_wide : Stmt := (top 73)
def s_K_init : Stmt := (inClass (top 75) 0)
def s_K_place_of : Stmt := (inClass (top 75) 1)
def s_K_cell_of : Stmt := (inClass (top 75) 2)
def s_K_found_anew : Stmt := (inClass (top 75) 3)
def s_K_put_at : Stmt := (inClass (top 75) 4)
def s_K_taken : Stmt := (inClass (top 75) 5)
def s_K_put_row : Stmt := (inClass (top 75) 6)
def s_K_take_row : Stmt := (inClass (top 75) 7)
def s_K_undo : Stmt := (inClass (top 75) 8)
def s_K_wide_now : Stmt := (inClass (top 75) 9)
def s_turned : Stmt := (top 77)
def s_without : Stmt := (top 78)
def s_to_key : Stmt := (top 79)
def s_told_list : Stmt := (top 81)
def s_places_in : Stmt := (top 83)
def s_at_places2 : Stmt := (top 84)
def s_heads_in : Stmt := (top 86)
def s_cell_rank : Stmt := (top 87)
def s_parts_by : Stmt := (top 88)
def s_value_text : Stmt := (top 93)
def s_words_text : Stmt := (top 94)
def s_cell_text : Stmt := (top 95)
def s_wide_text : Stmt := (top 96)
def s__law_same : Stmt := (top 101)
def s__law_sales : Stmt := (top 102)
def s__law_few : Stmt := (top 104)
def s__law_by_town : Stmt := (top 103)
def s__law_first : Stmt := (top 105)
def s__law_second : Stmt := (top 106)
def s__law_taken : Stmt := (top 108)
def s__law_kept_right : Stmt := (top 107)
def s_cell : Stmt := top 98
def s_box : Stmt := top 99
def s_take : Stmt := top 100
def s_double : Stmt := top 109
def s_law : Stmt := top 110
def s_init : Stmt := inClass (top 10) 0
end Ev
/-! ## the head: facts by names, one run -/
namespace EvH
open PySem L2 PySem.Spec PyProof.Rows Ev
def dd_is_number : He.DefD := ⟨(("is_number" : Str), (none : Option Str)), "is_number", "is_number", defArgs s_is_number, defBody s_is_number, defScope s_is_number, [], []⟩
def dd_rank : He.DefD := ⟨(("rank" : Str), (none : Option Str)), "rank", "rank", defArgs s_rank, defBody s_rank, defScope s_rank, [], []⟩
def dd_ranks : He.DefD := ⟨(("ranks" : Str), (none : Option Str)), "ranks", "ranks", defArgs s_ranks, defBody s_ranks, defScope s_ranks, [], []⟩
def dd_stands_ahead : He.DefD := ⟨(("stands_ahead" : Str), (none : Option Str)), "stands_ahead", "stands_ahead", defArgs s_stands_ahead, defBody s_stands_ahead, defScope s_stands_ahead, [], []⟩
def dd_risen : He.DefD := ⟨(("risen" : Str), (none : Option Str)), "risen", "risen", defArgs s_risen, defBody s_risen, defScope s_risen, [], []⟩
def dd_places_of : He.DefD := ⟨(("places_of" : Str), (none : Option Str)), "places_of", "places_of", defArgs s_places_of, defBody s_places_of, defScope s_places_of, [], []⟩
def dd_at_places : He.DefD := ⟨(("at_places_tables" : Str), (none : Option Str)), "at_places", "at_places", defArgs s_at_places, defBody s_at_places, defScope s_at_places, [], []⟩
def dd_parts_of : He.DefD := ⟨(("parts_of" : Str), (none : Option Str)), "parts_of", "parts_of", defArgs s_parts_of, defBody s_parts_of, defScope s_parts_of, [], []⟩
def dd_kept : He.DefD := ⟨(("kept" : Str), (none : Option Str)), "kept", "kept", defArgs s_kept, defBody s_kept, defScope s_kept, [], []⟩
def dd_numbers_by : He.DefD := ⟨(("numbers_by" : Str), (none : Option Str)), "numbers_by", "numbers_by", defArgs s_numbers_by, defBody s_numbers_by, defScope s_numbers_by, [], []⟩
def dd_look_parted : He.DefD := ⟨(("look_parted" : Str), (none : Option Str)), "look_parted", "look_parted", defArgs s_look_parted, defBody s_look_parted, defScope s_look_parted, [], []⟩
def dd_look_order : He.DefD := ⟨(("look_order" : Str), (none : Option Str)), "look_order", "look_order", defArgs s_look_order, defBody s_look_order, defScope s_look_order, [], []⟩
def dd_unlike_ones : He.DefD := ⟨(("unlike_ones" : Str), (none : Option Str)), "unlike_ones", "unlike_ones", defArgs s_unlike_ones, defBody s_unlike_ones, defScope s_unlike_ones, [], []⟩
def dd_heads_by : He.DefD := ⟨(("heads_by" : Str), (none : Option Str)), "heads_by", "heads_by", defArgs s_heads_by, defBody s_heads_by, defScope s_heads_by, [], []⟩
def dd_look_doubles : He.DefD := ⟨(("look_doubles" : Str), (none : Option Str)), "look_doubles", "look_doubles", defArgs s_look_doubles, defBody s_look_doubles, defScope s_look_doubles, [], []⟩
def dd_wide_of : He.DefD := ⟨(("wide_of" : Str), (none : Option Str)), "wide_of", "wide_of", defArgs s_wide_of, defBody s_wide_of, defScope s_wide_of, [], []⟩
def dd_folded : He.DefD := ⟨(("folded" : Str), (none : Option Str)), "folded", "folded", defArgs s_folded, defBody s_folded, defScope s_folded, [], []⟩
def dd_unfolded : He.DefD := ⟨(("unfolded" : Str), (none : Option Str)), "unfolded", "unfolded", defArgs s_unfolded, defBody s_unfolded, defScope s_unfolded, [], []⟩
def dd_gaps : He.DefD := ⟨(("gaps" : Str), (none : Option Str)), "gaps", "gaps", defArgs s_gaps, defBody s_gaps, defScope s_gaps, [], []⟩
def dd_sum_of : He.DefD := ⟨(("sum_of" : Str), (none : Option Str)), "sum_of", "sum_of", defArgs s_sum_of, defBody s_sum_of, defScope s_sum_of, [], []⟩
def dd_last_of : He.DefD := ⟨(("last_of" : Str), (none : Option Str)), "last_of", "last_of", defArgs s_last_of, defBody s_last_of, defScope s_last_of, [], []⟩
def dd_put_together : He.DefD := ⟨(("put_together" : Str), (none : Option Str)), "put_together", "put_together", defArgs s_put_together, defBody s_put_together, defScope s_put_together, [], []⟩
def dd_look_ways : He.DefD := ⟨(("look_ways_foldby" : Str), (none : Option Str)), "look_ways", "look_ways", defArgs s_look_ways, defBody s_look_ways, defScope s_look_ways, [], []⟩
def dd_rows_at : He.DefD := ⟨(("rows_at" : Str), (none : Option Str)), "rows_at", "rows_at", defArgs s_rows_at, defBody s_rows_at, defScope s_rows_at, [], []⟩
def dd_cell_of : He.DefD := ⟨(("cell_of" : Str), (none : Option Str)), "cell_of", "cell_of", defArgs s_cell_of, defBody s_cell_of, defScope s_cell_of, [], []⟩
def dd_folded_by : He.DefD := ⟨(("folded_by" : Str), (none : Option Str)), "folded_by", "folded_by", defArgs s_folded_by, defBody s_folded_by, defScope s_folded_by, [], []⟩
def dd_look_unlike : He.DefD := ⟨(("look_unlike" : Str), (none : Option Str)), "look_unlike", "look_unlike", defArgs s_look_unlike, defBody s_look_unlike, defScope s_look_unlike, [], []⟩
def dd_sources : He.DefD := ⟨(("sources" : Str), (none : Option Str)), "sources", "sources", defArgs s_sources, defBody s_sources, defScope s_sources, [], []⟩
def dd_rolled : He.DefD := ⟨(("rolled" : Str), (none : Option Str)), "rolled", "rolled", defArgs s_rolled, defBody s_rolled, defScope s_rolled, [], []⟩
def dd_cut_tuples : He.DefD := ⟨(("cut_tuples" : Str), (none : Option Str)), "cut_tuples", "cut_tuples", defArgs s_cut_tuples, defBody s_cut_tuples, defScope s_cut_tuples, [], []⟩
def dd_cells_together : He.DefD := ⟨(("cells_together" : Str), (none : Option Str)), "cells_together", "cells_together", defArgs s_cells_together, defBody s_cells_together, defScope s_cells_together, [], []⟩
def dd_look_ways2 : He.DefD := ⟨(("look_ways" : Str), (none : Option Str)), "look_ways", "look_ways", defArgs s_look_ways2, defBody s_look_ways2, defScope s_look_ways2, [], []⟩
def dd_added : He.DefD := ⟨(("added" : Str), (none : Option Str)), "added", "added", defArgs s_added, defBody s_added, defScope s_added, [], []⟩
def dd_margins : He.DefD := ⟨(("margins" : Str), (none : Option Str)), "margins", "margins", defArgs s_margins, defBody s_margins, defScope s_margins, [], []⟩
def dd_holds : He.DefD := ⟨(("holds" : Str), (none : Option Str)), "holds", "holds", defArgs s_holds, defBody s_holds, defScope s_holds, [], []⟩
def dd_look_columns : He.DefD := ⟨(("look_columns" : Str), (none : Option Str)), "look_columns", "look_columns", defArgs s_look_columns, defBody s_look_columns, defScope s_look_columns, [], []⟩
def dd_look_words : He.DefD := ⟨(("look_words" : Str), (none : Option Str)), "look_words", "look_words", defArgs s_look_words, defBody s_look_words, defScope s_look_words, [], []⟩
def dd_looked : He.DefD := ⟨(("looked" : Str), (none : Option Str)), "looked", "looked", defArgs s_looked, defBody s_looked, defScope s_looked, [], []⟩
def dd_rows_where : He.DefD := ⟨(("rows_where" : Str), (none : Option Str)), "rows_where", "rows_where", defArgs s_rows_where, defBody s_rows_where, defScope s_rows_where, [], []⟩
def dd_look_question : He.DefD := ⟨(("look_question" : Str), (none : Option Str)), "look_question", "look_question", defArgs s_look_question, defBody s_look_question, defScope s_look_question, [], []⟩
def dd_each_once : He.DefD := ⟨(("each_once" : Str), (none : Option Str)), "each_once", "each_once", defArgs s_each_once, defBody s_each_once, defScope s_each_once, [], []⟩
def dd_answer : He.DefD := ⟨(("answer" : Str), (none : Option Str)), "answer", "answer", defArgs s_answer, defBody s_answer, defScope s_answer, [], []⟩
def dd_answer_wide : He.DefD := ⟨(("answer_wide" : Str), (none : Option Str)), "answer_wide", "answer_wide", defArgs s_answer_wide, defBody s_answer_wide, defScope s_answer_wide, [], []⟩
def dd_K_init : He.DefD := ⟨(("Keeper" : Str), (some "__init__" : Option Str)), "__init__", "Keeper.__init__", defArgs s_K_init, defBody s_K_init, defScope s_K_init, [], []⟩
def dd_K_place_of : He.DefD := ⟨(("Keeper" : Str), (some "place_of" : Option Str)), "place_of", "Keeper.place_of", defArgs s_K_place_of, defBody s_K_place_of, defScope s_K_place_of, [], []⟩
def dd_K_cell_of : He.DefD := ⟨(("Keeper" : Str), (some "cell_of" : Option Str)), "cell_of", "Keeper.cell_of", defArgs s_K_cell_of, defBody s_K_cell_of, defScope s_K_cell_of, [], []⟩
def dd_K_found_anew : He.DefD := ⟨(("Keeper" : Str), (some "found_anew" : Option Str)), "found_anew", "Keeper.found_anew", defArgs s_K_found_anew, defBody s_K_found_anew, defScope s_K_found_anew, [], []⟩
def dd_K_put_at : He.DefD := ⟨(("Keeper" : Str), (some "put_at" : Option Str)), "put_at", "Keeper.put_at", defArgs s_K_put_at, defBody s_K_put_at, defScope s_K_put_at, [], []⟩
def dd_K_taken : He.DefD := ⟨(("Keeper" : Str), (some "taken" : Option Str)), "taken", "Keeper.taken", defArgs s_K_taken, defBody s_K_taken, defScope s_K_taken, [], []⟩
def dd_K_put_row : He.DefD := ⟨(("Keeper" : Str), (some "put_row" : Option Str)), "put_row", "Keeper.put_row", defArgs s_K_put_row, defBody s_K_put_row, defScope s_K_put_row, [], []⟩
def dd_K_take_row : He.DefD := ⟨(("Keeper" : Str), (some "take_row" : Option Str)), "take_row", "Keeper.take_row", defArgs s_K_take_row, defBody s_K_take_row, defScope s_K_take_row, [], []⟩
def dd_K_undo : He.DefD := ⟨(("Keeper" : Str), (some "undo" : Option Str)), "undo", "Keeper.undo", defArgs s_K_undo, defBody s_K_undo, defScope s_K_undo, [], []⟩
def dd_K_wide_now : He.DefD := ⟨(("Keeper" : Str), (some "wide_now" : Option Str)), "wide_now", "Keeper.wide_now", defArgs s_K_wide_now, defBody s_K_wide_now, defScope s_K_wide_now, [], []⟩
def dd_turned : He.DefD := ⟨(("turned" : Str), (none : Option Str)), "turned", "turned", defArgs s_turned, defBody s_turned, defScope s_turned, [], []⟩
def dd_without : He.DefD := ⟨(("without" : Str), (none : Option Str)), "without", "without", defArgs s_without, defBody s_without, defScope s_without, [], []⟩
def dd_to_key : He.DefD := ⟨(("to_key" : Str), (none : Option Str)), "to_key", "to_key", defArgs s_to_key, defBody s_to_key, defScope s_to_key, [], []⟩
def dd_told_list : He.DefD := ⟨(("told_list" : Str), (none : Option Str)), "told_list", "told_list", defArgs s_told_list, defBody s_told_list, defScope s_told_list, [], []⟩
def dd_places_in : He.DefD := ⟨(("places_in" : Str), (none : Option Str)), "places_in", "places_in", defArgs s_places_in, defBody s_places_in, defScope s_places_in, [], []⟩
def dd_at_places2 : He.DefD := ⟨(("at_places" : Str), (none : Option Str)), "at_places", "at_places", defArgs s_at_places2, defBody s_at_places2, defScope s_at_places2, [], []⟩
def dd_heads_in : He.DefD := ⟨(("heads_in" : Str), (none : Option Str)), "heads_in", "heads_in", defArgs s_heads_in, defBody s_heads_in, defScope s_heads_in, [], []⟩
def dd_cell_rank : He.DefD := ⟨(("cell_rank" : Str), (none : Option Str)), "cell_rank", "cell_rank", defArgs s_cell_rank, defBody s_cell_rank, defScope s_cell_rank, [], []⟩
def dd_parts_by : He.DefD := ⟨(("parts_by" : Str), (none : Option Str)), "parts_by", "parts_by", defArgs s_parts_by, defBody s_parts_by, defScope s_parts_by, [], []⟩
def dd_value_text : He.DefD := ⟨(("value_text" : Str), (none : Option Str)), "value_text", "value_text", defArgs s_value_text, defBody s_value_text, defScope s_value_text, [], []⟩
def dd_words_text : He.DefD := ⟨(("words_text" : Str), (none : Option Str)), "words_text", "words_text", defArgs s_words_text, defBody s_words_text, defScope s_words_text, [], []⟩
def dd_cell_text : He.DefD := ⟨(("cell_text" : Str), (none : Option Str)), "cell_text", "cell_text", defArgs s_cell_text, defBody s_cell_text, defScope s_cell_text, [], []⟩
def dd_wide_text : He.DefD := ⟨(("wide_text" : Str), (none : Option Str)), "wide_text", "wide_text", defArgs s_wide_text, defBody s_wide_text, defScope s_wide_text, [], []⟩
def dd__law_same : He.DefD := ⟨(("_law_same" : Str), (none : Option Str)), "_law_same", "_law_same", defArgs s__law_same, defBody s__law_same, defScope s__law_same, [], []⟩
def dd__law_sales : He.DefD := ⟨(("_law_sales" : Str), (none : Option Str)), "_law_sales", "_law_sales", defArgs s__law_sales, defBody s__law_sales, defScope s__law_sales, [], []⟩
def dd__law_by_town : He.DefD := ⟨(("_law_by_town" : Str), (none : Option Str)), "_law_by_town", "_law_by_town", defArgs s__law_by_town, defBody s__law_by_town, defScope s__law_by_town, [], []⟩
def dd__law_few : He.DefD := ⟨(("_law_few" : Str), (none : Option Str)), "_law_few", "_law_few", defArgs s__law_few, defBody s__law_few, defScope s__law_few, [], []⟩
def dd__law_first : He.DefD := ⟨(("_law_first" : Str), (none : Option Str)), "_law_first", "_law_first", defArgs s__law_first, defBody s__law_first, defScope s__law_first, [], []⟩
def dd__law_second : He.DefD := ⟨(("_law_second" : Str), (none : Option Str)), "_law_second", "_law_second", defArgs s__law_second, defBody s__law_second, defScope s__law_second, [], []⟩
def dd__law_kept_right : He.DefD := ⟨(("_law_kept_right" : Str), (none : Option Str)), "_law_kept_right", "_law_kept_right", defArgs s__law_kept_right, defBody s__law_kept_right, defScope s__law_kept_right, [], []⟩
def dd__law_taken : He.DefD := ⟨(("_law_taken" : Str), (none : Option Str)), "_law_taken", "_law_taken", defArgs s__law_taken, defBody s__law_taken, defScope s__law_taken, [], []⟩
def dd__law_cell_at : He.DefD := ⟨(("_law_cell_at" : Str), (none : Option Str)), "_law_cell_at", "_law_cell_at", defArgs s_cell, defBody s_cell, defScope s_cell, [], []⟩
def dd__law_box : He.DefD := ⟨(("_law_box" : Str), (none : Option Str)), "_law_box", "_law_box", defArgs s_box, defBody s_box, defScope s_box, [], []⟩
def dd__law_take : He.DefD := ⟨(("_law_take" : Str), (none : Option Str)), "_law_take", "_law_take", defArgs s_take, defBody s_take, defScope s_take, [], []⟩
def dd__law_double : He.DefD := ⟨(("_law_double" : Str), (none : Option Str)), "_law_double", "_law_double", defArgs s_double, defBody s_double, defScope s_double, [], []⟩
def dd_law : He.DefD := ⟨(("law" : Str), (none : Option Str)), "law", "law", defArgs s_law, defBody s_law, defScope s_law, [], []⟩
def dd_D_init : He.DefD := ⟨(("Double" : Str), (some "__init__" : Option Str)), "__init__", "Double.__init__", defArgs s_init, defBody s_init, defScope s_init, [], []⟩
def fns : List He.DefD := [dd_is_number, dd_rank, dd_ranks, dd_stands_ahead, dd_risen, dd_places_of, dd_at_places, dd_parts_of, dd_kept, dd_numbers_by, dd_look_parted, dd_look_order, dd_unlike_ones, dd_heads_by, dd_look_doubles, dd_wide_of, dd_folded, dd_unfolded, dd_gaps, dd_sum_of, dd_last_of, dd_put_together, dd_look_ways, dd_rows_at, dd_cell_of, dd_folded_by, dd_look_unlike, dd_sources, dd_rolled, dd_cut_tuples, dd_cells_together, dd_look_ways2, dd_added, dd_margins, dd_holds, dd_look_columns, dd_look_words, dd_looked, dd_rows_where, dd_look_question, dd_each_once, dd_answer, dd_answer_wide, dd_K_init, dd_K_place_of, dd_K_cell_of, dd_K_found_anew, dd_K_put_at, dd_K_taken, dd_K_put_row, dd_K_take_row, dd_K_undo, dd_K_wide_now, dd_turned, dd_without, dd_to_key, dd_told_list, dd_places_in, dd_at_places2, dd_heads_in, dd_cell_rank, dd_parts_by, dd_value_text, dd_words_text, dd_cell_text, dd_wide_text, dd__law_same, dd__law_sales, dd__law_by_town, dd__law_few, dd__law_first, dd__law_second, dd__law_kept_right, dd__law_taken, dd__law_cell_at, dd__law_box, dd__law_take, dd__law_double, dd_law, dd_D_init]
def fas0 : List He.Fa := [.glo "at_places_tables", .glo "at_places_orders", .glo "look_ways_foldby", .glo "look_ways_along", .glo "at_places", .glo "look_ways", .glo "is_number", .glo "rank", .glo "ranks", .glo "stands_ahead", .glo "risen", .glo "places_of", .glo "parts_of", .glo "kept", .glo "numbers_by", .glo "look_parted", .glo "look_order", .glo "unlike_ones", .glo "heads_by", .glo "look_doubles", .glo "wide_of", .glo "folded", .glo "unfolded", .glo "gaps", .glo "sum_of", .glo "last_of", .glo "put_together", .glo "rows_at", .glo "cell_of", .glo "folded_by", .glo "look_unlike", .glo "sources", .glo "rolled", .glo "cut_tuples", .glo "cells_together", .glo "added", .glo "margins", .glo "holds", .glo "look_columns", .glo "look_words"]
def fas1 : List He.Fa := [.glo "looked", .glo "rows_where", .glo "look_question", .glo "each_once", .glo "answer", .glo "answer_wide", .glo "turned", .glo "without", .glo "to_key", .glo "told_list", .glo "places_in", .glo "heads_in", .glo "cell_rank", .glo "parts_by", .glo "value_text", .glo "words_text", .glo "cell_text", .glo "wide_text", .glo "_law_same", .glo "_law_sales", .glo "_law_by_town", .glo "_law_few", .glo "_law_first", .glo "_law_second", .glo "_law_kept_right", .glo "_law_taken", .glo "_law_cell_at", .glo "_law_box", .glo "_law_take", .glo "_law_double", .glo "law", .glo "Double", .glo "FoldError", .glo "Keeper", .glo "WAYS", .glo "ADDING", .free "abs", .free "all", .free "any", .free "bool"]
def fas2 : List He.Fa := [.free "dict", .free "enumerate", .free "int", .free "isinstance", .free "len", .free "list", .free "min", .free "range", .free "set", .free "sorted", .free "str", .free "sum", .free "tuple", .free "zip", .str "SEEN" "seen", .str "RISING" "rising", .str "IS" "is", .str "NOT" "not", .str "BELOW" "below", .str "ABOVE" "above", .str "ROWS" "rows", .str "ALL" "all", .str "QUOTE" "'", .str "STROKE" "\\", .str "GAP" "_", .cls "Keeper", .mkr "Keeper", .noat "Keeper" "table", .noat "Keeper" "told", .noat "Keeper" "places", .noat "Keeper" "coming", .noat "Keeper" "rows", .noat "Keeper" "by_place", .noat "Keeper" "cells", .noat "Keeper" "past", .meth "Keeper" "place_of", .meth "Keeper" "cell_of", .meth "Keeper" "found_anew", .meth "Keeper" "put_at", .meth "Keeper" "taken"]
def fas3 : List He.Fa := [.meth "Keeper" "put_row", .meth "Keeper" "take_row", .meth "Keeper" "undo", .meth "Keeper" "wide_now", .exm "Double" "Double" true]
def fas : List He.Fa := fas0 ++ fas1 ++ fas2 ++ fas3
def tfs : List He.Defn := [(("places_in" : Str), none), (("parts_by" : Str), none)]
def oexB (K : PySem.W.Frag) (C : Addr) : Bool := (match K.lookup C with
  | some ⟨.type t, _, .cls cd, sl⟩ => decide (t = "type") && (match cd.mro, sl.toList with
    | .ref C' :: bm, [_, _, _, _, some (.builtin n), _] => decide (C' = C) && (decide (n = "ValueError.__new__") && (cd.hasDict && (!cd.hasDel && HandSPX.refsVE bm)))
    | _, _ => false)
  | _ => false) && (He.eqO (PySem.W.findIn K (.ref C) "__setattr__") (some (some (.builtin "object.__setattr__"))) && (decide (PySem.W.subIn K (.ref C) (.type "BaseException") = some true) && (decide (PySem.W.typeIn K (.ref C) = some (.type "type")) && PySem.W.keepIn K (.ref C))))
theorem oexB_ok {K : PySem.W.Frag} {C : Addr} (h : oexB K C = true) : OexC K C := by
  unfold oexB at h
  obtain ⟨h1, h⟩ := He.ba h
  obtain ⟨h2, h⟩ := He.ba h
  obtain ⟨h3, h⟩ := He.ba h
  obtain ⟨h4, h5⟩ := He.ba h
  refine ⟨?_, He.eqO_ok h2, of_decide_eq_true h3, of_decide_eq_true h4, h5⟩
  split at h1
  · rename_i t dd cd sl ho
    obtain ⟨h6, h7⟩ := He.ba h1
    split at h7
    · rename_i C' bm k0 k1 k2 k3 n k5 em es
      obtain ⟨h8, h9⟩ := He.ba h7
      obtain ⟨h10, h11⟩ := He.ba h9
      obtain ⟨h12, h13⟩ := He.ba h11
      obtain ⟨h14, h15⟩ := He.ba h13
      cases of_decide_eq_true h6
      cases of_decide_eq_true h8
      cases of_decide_eq_true h10
      obtain ⟨nm, bs, mro, ns, ql, hd, sn, sub, ab, col, del⟩ := cd
      have e1 : mro = .ref C :: bm := em
      have e2 : hd = true := h12
      have e3 : del = false := by
        have z : (!del) = true := h14
        cases del
        · rfl
        · cases z
      have e4 : sl = #[k0, k1, k2, k3, some (.builtin "ValueError.__new__"), k5] := by
        apply Array.toList_inj.mp
        exact es
      subst e1 e2 e3 e4
      exact ⟨nm, ql, ns, bs, bm, sn, sub, ab, col, dd, k0, k1, k2, k3, k5, ho, h15⟩
    · cases h7
  · cases h1
def tfB (K : PySem.W.Frag) (x : Str) (vs : List Str) : Bool := match K.lookup (He.ga K x) with
  | some ⟨.type c, none, .seq its _, _⟩ => decide (c = "tuple") && (decide (its.size ≤ sizeLine) && He.relAll (vs.map V.str) its.toList)
  | _ => false
def finB (K : PySem.W.Frag) (C : Addr) : Bool := match PySem.W.findCls K (.ref C) (.type "type") "__init__" with
  | some (.val (.builtin n)) => decide (n = "ValueError.__init__")
  | _ => false
theorem finB_ok {K : PySem.W.Frag} {C : Addr} (h : finB K C = true) : PySem.W.findCls K (.ref C) (.type "type") "__init__" = some (.val (.builtin "ValueError.__init__")) := by
  unfold finB at h
  split at h
  · rename_i n e
    cases of_decide_eq_true h
    exact e
  · cases h
def specB (K : PySem.W.Frag) (C : Addr) : Bool := He.eqO (PySem.W.specialIn K (.ref C) "__getattribute__") (some (some (.builtin "type.__getattribute__")))
def pIn (K : PySem.W.Frag) : Addr := (He.cT K (("places_in" : Str), none)).2
def pBy (K : PySem.W.Frag) : Addr := (He.cT K (("parts_by" : Str), none)).2
def exL (K : PySem.W.Frag) : List Bool := [oexB K (He.ga K "Double"),
  xfB K (He.ga K "Double"),
  He.eqO (PySem.W.findIn K (.ref (He.ga K "Double")) "rows") (some none),
  He.eqO (PySem.W.findIn K (.ref (He.ga K "Double")) "__init__") (some (some (.ref (He.ma K (He.ga K "Double") "__init__")))),
  decide (PySem.W.typeIn K (.ref (He.ma K (He.ga K "Double") "__init__")) = some (.type "function")),
  specB K (He.ga K "FoldError"),
  decide (PySem.W.typeIn K (.ref (He.ga K "FoldError")) = some (.type "type")),
  PySem.W.readsIn K (He.ga K "FoldError") (.type "type"),
  finB K (He.ga K "FoldError"),
  tfB K "WAYS" ["first", "last", "sum", "count", "least", "greatest", "unlike"],
  tfB K "ADDING" ["sum", "count", "least", "greatest"],
  decide (He.ga K "at_places_orders" = He.ga K "at_places"),
  decide (He.ga K "look_ways_along" = He.ga K "look_ways"),
  decide (pIn K ≠ pBy K)]
def exB (K : PySem.W.Frag) : Bool := (exL K).all id
theorem exB_at {K : PySem.W.Frag} (h : exB K = true) (i : Nat) {b : Bool} (e : (exL K)[i]? = some b) : b = true := List.all_eq_true.mp h b (List.mem_of_getElem? e)
def lo0 : List Str := ["_wall", "FoldError", "BadColumns", "BadOrder", "BadWay", "NoNumber", "NoHead", "NoRow", "NoColumn", "Double", "is_number", "rank", "ranks", "stands_ahead", "risen", "places_of", "at_places", "at_places_tables", "parts_of", "kept", "numbers_by", "SEEN", "RISING", "look_parted", "look_order", "unlike_ones", "heads_by", "look_doubles", "wide_of", "folded"]
def lo1 : List Str := ["unfolded", "gaps", "WAYS", "sum_of", "last_of", "put_together", "look_ways", "look_ways_foldby", "rows_at", "cell_of", "folded_by", "look_unlike", "sources", "ADDING", "rolled", "cut_tuples", "cells_together", "look_ways_along", "added", "margins", "IS", "NOT", "BELOW", "ABOVE", "ROWS", "ALL", "holds", "look_columns", "look_words", "looked"]
def lo2 : List Str := ["rows_where", "look_question", "each_once", "answer", "answer_wide", "Keeper", "turned", "without", "to_key", "told_list", "as_told", "places_in", "at_places_orders", "heads_in", "cell_rank", "parts_by", "QUOTE", "STROKE", "GAP", "value_text", "words_text", "cell_text", "wide_text", "_law_cell_at", "_law_box", "_law_take", "_law_same", "_law_sales", "_law_by_town", "_law_few"]
def lo3 : List Str := ["_law_first", "_law_second", "_law_kept_right", "_law_taken", "_law_double"]
def loose : List Str := lo0 ++ lo1 ++ lo2 ++ lo3
abbrev R : PySem.W.OpenRow := PySem.W.OpenLaw.row PySem.Challenge.rw_pivotfold_k72_whole_everyday_tables
/-! the Hook: what the module's names reach, and the statics' namespace -/
def adL : List Addr := [3, 2, 31, 44, 56, 68, 80, 92, 104, 123, 142, 489, 6, 0, 30, 43, 55, 67, 79, 91, 103, 122, 141, 488, 260, 312, 151, 150, 158, 157, 163, 162, 170, 169, 177, 176, 182, 181, 187, 186, 192, 191, 199, 198, 206, 205, 211, 210, 218, 217, 223, 222, 230, 229, 237, 236, 242, 241, 249, 248, 254, 253, 259, 258, 265, 264, 272, 271, 277, 276, 282, 281, 289, 288, 294, 293, 301, 300, 306, 305, 311, 310, 319, 318, 326, 325, 331, 330, 336, 335, 341, 340, 348, 347, 355, 354, 362, 361, 369, 368, 374, 373, 379, 378, 384, 383, 389, 388, 394, 393, 401, 400, 413, 412, 420, 419, 425, 424, 432, 431, 439, 438, 446, 445, 453, 452, 460, 459, 467, 466, 472, 471, 500, 499, 505, 504, 512, 511, 519, 518, 531, 530, 536, 535, 541, 540, 548, 547, 555, 554, 562, 561, 567, 566, 574, 573, 579, 578, 605, 604, 612, 611, 619, 618, 624, 623, 631, 630, 638, 637, 645, 644, 652, 651, 586, 585, 593, 592, 600, 599, 659, 658, 666, 665, 139, 138]
def frY (g : Addr → Option Obj) : PySem.W.Frag := He.frT g adL
def obY (g : Addr → Option Obj) : He.AlX := (He.obsT fas fns [] (frY g), exB (frY g) && He.tabsB g tfs (frY g))
theorem saysY {h : Heap} {w : World} (e : obY h.get? = He.valX fns [] w) : He.SaysX fas fns [] tfs exB w h (frY h.get?) := by
  obtain ⟨ex, tb⟩ := He.ba (show (exB (frY h.get?) && He.tabsB h.get? tfs (frY h.get?)) = true from congrArg Prod.snd e)
  have tbl : ∀ d ∈ tfs, PySem.W.codeHdIn (frY h.get?) (He.cT (frY h.get?) d).1 (He.cT (frY h.get?) d).2 = true ∧ ∃ ob, h.get? (He.cT (frY h.get?) d).2 = some ob ∧ He.emptyTab ob = true := by
    intro d hd
    obtain ⟨y1, y2⟩ := He.ba (List.all_eq_true.mp tb d hd)
    refine ⟨y1, ?_⟩
    revert y2
    cases h.get? (He.cT (frY h.get?) d).2 with
    | none => intro y2; cases y2
    | some ob => intro y2; exact ⟨ob, rfl, y2⟩
  refine ⟨congrArg Prod.fst e, ex, fun d hd => (tbl d hd).1, fun d hd => ?_, fun d hd => ?_⟩
  · obtain ⟨_, ob, y3, y4⟩ := tbl d hd
    exact He.frT_none y3 y4
  · obtain ⟨_, ob, y3, y4⟩ := tbl d hd
    rw [y3, He.emptyTab_eq y4]
def hk : PySem.W.Hook where
  α := He.AlX
  obs := fun s => obY s.heap.get?
  val := fun w => He.valX fns [] w
  says := fun w h => ∃ K : PySem.W.Frag, K.In h ∧ He.SaysX fas fns [] tfs exB w h K
  of := fun _ _ e => ⟨_, He.frT_in, saysY e⟩
  keeps := (He.hookX 5 fas fns [] tfs exB).keeps
noncomputable def ob (s : PySem.W.SharedT) : He.AlX := obY (HandSHeadRun.getT s)
theorem ob_eq (s : PySem.W.SharedT) : ob s = hk.obs s.abs := by
  have e : HandSHeadRun.getT s = s.abs.heap.get? := funext (HandSHeadRun.getT_eq s)
  unfold ob
  rw [e] <;> rfl
set_option maxHeartbeats 0 in
theorem run (w : World) : HandSHeadRun.RunEq R (PySem.W.view R.prog [110]) hk ob 20000 loose w := by
  intro os
  kernel_rfl
end EvH

namespace Ev
open PySem L2 PySem.Spec PyProof.Rows

/-! ## virtual values, objects, the virtual heap -/
inductive SV where
  | non | bl (b : Bool) | int (i : Int) | str (x : Str) | ty (n : String) | tup (xs : List SV) | loc (i : Nat)
inductive VO where
  | lst (xs : List SV) | dk (kvs : List (Key × SV)) | dt (kvs : List (NestedKey × SV)) | ins (fs : List (Str × SV)) | fz

inductive Tr where
  | nil | node (v : Option VO) (l r : Tr)
namespace Tr
def get : Tr → Nat → Option VO
  | .nil, _ => none
  | .node v l r, i => match Nat.beq i 0 with
    | true => v
    | false => match Nat.beq (i % 2) 1 with
      | true => l.get (i / 2)
      | false => r.get (i / 2 - 1)
def put : Nat → Tr → Nat → VO → Tr
  | 0, t, _, _ => t
  | n + 1, .nil, i, o => match Nat.beq i 0 with
    | true => .node (some o) .nil .nil
    | false => match Nat.beq (i % 2) 1 with
      | true => .node none (put n .nil (i / 2) o) .nil
      | false => .node none .nil (put n .nil (i / 2 - 1) o)
  | n + 1, .node v l r, i, o => match Nat.beq i 0 with
    | true => .node (some o) l r
    | false => match Nat.beq (i % 2) 1 with
      | true => .node v (put n l (i / 2) o) r
      | false => .node v l (put n r (i / 2 - 1) o)
theorem beq_eq (a b : Nat) : Nat.beq a b = decide (a = b) := by
  by_cases h : a = b
  · subst h; simp
  · rw [decide_eq_false h]
    cases q : Nat.beq a b with
    | true => exact absurd (Nat.eq_of_beq_eq_true q) h
    | false => rfl
theorem get_node (v : Option VO) (l r : Tr) (i : Nat) : (node v l r).get i = if i = 0 then v else if i % 2 = 1 then l.get (i / 2) else r.get (i / 2 - 1) := by
  show (match Nat.beq i 0 with | true => v | false => match Nat.beq (i % 2) 1 with | true => l.get (i / 2) | false => r.get (i / 2 - 1)) = _
  rw [beq_eq, beq_eq]
  by_cases h : i = 0
  · simp [h]
  · by_cases q : i % 2 = 1 <;> simp [h, q]
theorem get_nil (i : Nat) : Tr.nil.get i = none := rfl
/-- what a put leaves elsewhere; at its own place it is there, or nothing was changed -/
theorem get_put : ∀ (n : Nat) (t : Tr) (i j : Nat) (o : VO), j ≠ i → (put n t i o).get j = t.get j
  | 0, _, _, _, _, _ => rfl
  | n + 1, .nil, i, j, o, h => by
    unfold put
    rw [beq_eq, beq_eq]
    by_cases hi : i = 0
    · subst hi
      simp only [decide_true]
      rw [get_node, if_neg h]
      split <;> rfl
    · rw [decide_eq_false hi]
      by_cases p : i % 2 = 1
      · rw [decide_eq_true p]
        simp only []
        rw [get_node]
        split
        · rfl
        · split
          · rw [get_put n .nil (i / 2) (j / 2) o (by omega)]; rfl
          · rfl
      · rw [decide_eq_false p]
        simp only []
        rw [get_node]
        split
        · rfl
        · split
          · rfl
          · rw [get_put n .nil (i / 2 - 1) (j / 2 - 1) o (by omega)]; rfl
  | n + 1, .node v l r, i, j, o, h => by
    unfold put
    rw [beq_eq, beq_eq]
    by_cases hi : i = 0
    · subst hi
      simp only [decide_true]
      rw [get_node, get_node, if_neg h, if_neg h]
    · rw [decide_eq_false hi]
      by_cases p : i % 2 = 1
      · rw [decide_eq_true p]
        simp only []
        rw [get_node, get_node]
        split
        · rfl
        · split
          · rw [get_put n l (i / 2) (j / 2) o (by omega)]
          · rfl
      · rw [decide_eq_false p]
        simp only []
        rw [get_node, get_node]
        split
        · rfl
        · split
          · rfl
          · rw [get_put n r (i / 2 - 1) (j / 2 - 1) o (by omega)]
theorem get_put_self : ∀ (n : Nat) (t : Tr) (i : Nat) (o : VO), i + 1 < 2 ^ n → (put n t i o).get i = some o
  | 0, t, i, o, h => by
    exact absurd h (by simp)
  | n + 1, .nil, i, o, h => by
    unfold put
    rw [beq_eq, beq_eq]
    rw [Nat.pow_succ] at h
    by_cases hi : i = 0
    · subst hi
      simp only [decide_true]
      rw [get_node, if_pos rfl]
    · rw [decide_eq_false hi]
      by_cases p : i % 2 = 1
      · rw [decide_eq_true p]
        simp only []
        rw [get_node, if_neg hi, if_pos p]
        exact get_put_self n .nil _ o (by omega)
      · rw [decide_eq_false p]
        simp only []
        rw [get_node, if_neg hi, if_neg p]
        exact get_put_self n .nil _ o (by omega)
  | n + 1, .node v l r, i, o, h => by
    unfold put
    rw [beq_eq, beq_eq]
    rw [Nat.pow_succ] at h
    by_cases hi : i = 0
    · subst hi
      simp only [decide_true]
      rw [get_node, if_pos rfl]
    · rw [decide_eq_false hi]
      by_cases p : i % 2 = 1
      · rw [decide_eq_true p]
        simp only []
        rw [get_node, if_neg hi, if_pos p]
        exact get_put_self n l _ o (by omega)
      · rw [decide_eq_false p]
        simp only []
        rw [get_node, if_neg hi, if_neg p]
        exact get_put_self n r _ o (by omega)
end Tr

/-- n objects were made; their contents -/
structure VH where
  n : Nat
  t : Tr
def VH.get (h : VH) (i : Nat) : Option VO := h.t.get i
def VH.put (h : VH) (i : Nat) (o : VO) : VH := ⟨h.n, Tr.put (Nat.succ i) h.t i o⟩
/-- a new object -/
def VH.new (h : VH) (o : VO) : Nat × VH := (h.n, ⟨Nat.succ h.n, Tr.put (Nat.succ h.n) h.t h.n o⟩)
def VH.empty : VH := ⟨0, .nil⟩
theorem VH.get_put_ne {h : VH} {i j : Nat} {o : VO} (e : j ≠ i) : (h.put i o).get j = h.get j := Tr.get_put _ h.t i j o e

/-! ## how the virtual stands for the real -/
/-- a tuple to be read, of which it is known that it has no dict of its own -/
def TF (K : PySem.W.Frag) (H : Hp) (p : Addr) (vs : List V) : Prop :=
  (∃ o, H p = some (.frz o (.tup vs)) ∧ o.dict = none) ∨
    ∃ (o : Obj) (its : Array Value) (n : Nat), K.lookup p = some o ∧ o.cls = .type "tuple" ∧ o.dict = none ∧ o.data = .seq its n ∧ its.size ≤ sizeLine ∧ Vals vs its.toList
theorem TF.sq {K : PySem.W.Frag} {H : Hp} {p : Addr} {vs : List V} (h : TF K H p vs) : SqT K H p vs := by
  rcases h with ⟨o, h, _⟩ | ⟨o, its, n, h, c, _, d, z, r⟩
  · exact .inl (.inr ⟨o, h⟩)
  · exact .inr ⟨o, its, n, h, c, d, z, r⟩
theorem TF.ty {K : PySem.W.Frag} {H : Hp} {p : Addr} {vs : List V} (h : TF K H p vs) : TyX K H (.ref p) (.type "tuple") := by
  rcases h with ⟨o, h, _⟩ | ⟨o, its, n, h, c, _⟩
  · exact .fTuple h
  · exact .kTuple h c
theorem TF.nodict {X : Cx} {pins : List (Addr × Obj)} {σ : L2.St} {H : Hp} {s : Shared} (I : Inv X pins σ H s) {p : Addr} {vs : List V} (h : TF X.K H p vs) : ∃ ob, s.heap.get? p = some ob ∧ ob.dict = none := by
  rcases h with ⟨o, h, d⟩ | ⟨o, its, n, h, c, d, _⟩
  · obtain ⟨e, _⟩ := I.hok p _ h
    exact ⟨o, e, d⟩
  · exact ⟨o, I.kIn p o h, d⟩
mutual
inductive VR (K : PySem.W.Frag) (ρ : List Addr) (H : Hp) : SV → V → Prop where
  | non : VR K ρ H .non .non
  | bl (b : Bool) : VR K ρ H (.bl b) (.bl b)
  | int (i : Int) : VR K ρ H (.int i) (.int i)
  | str (x : Str) : VR K ρ H (.str x) (.str x)
  | ty (n : String) : VR K ρ H (.ty n) (.ty n)
  | tup {p : Addr} {xs : List SV} {vs : List V} (h : TF K H p vs) (r : VRs K ρ H xs vs) : VR K ρ H (.tup xs) (.ref p)
  | loc {i : Nat} {a : Addr} (h : ρ[i]? = some a) : VR K ρ H (.loc i) (.ref a)
inductive VRs (K : PySem.W.Frag) (ρ : List Addr) (H : Hp) : List SV → List V → Prop where
  | nil : VRs K ρ H [] []
  | cons {x : SV} {v : V} {xs : List SV} {vs : List V} (h : VR K ρ H x v) (t : VRs K ρ H xs vs) : VRs K ρ H (x :: xs) (v :: vs)
end

/-- what may have come between: new objects, the virtual heap's own objects changed -/
structure Ext (K : PySem.W.Frag) (ρ : List Addr) (H : Hp) (ρ' : List Addr) (H' : Hp) : Prop where
  pre : ∃ m, ρ' = ρ ++ m
  keep : ∀ b o, H b = some o → b ∉ ρ → (∀ ps, o ≠ .tbl ps) → H' b = some o ∧ b ∉ ρ'
  frz : ∀ p o u, H p = some (.frz o u) → H' p = some (.frz o u)
theorem Ext.refl {K : PySem.W.Frag} {ρ : List Addr} {H : Hp} : Ext K ρ H ρ H := ⟨⟨[], by simp⟩, fun _ _ h n _ => ⟨h, n⟩, fun _ _ _ h => h⟩
theorem Ext.tups {K : PySem.W.Frag} {ρ ρ' : List Addr} {H H' : Hp} (e : Ext K ρ H ρ' H') (p : Addr) (vs : List V) (h : TF K H p vs) : TF K H' p vs := by
  rcases h with ⟨o, h, d⟩ | h
  · exact .inl ⟨o, e.frz _ _ _ h, d⟩
  · exact .inr h
theorem Ext.trans {K : PySem.W.Frag} {ρ ρ1 ρ2 : List Addr} {H H1 H2 : Hp} (a : Ext K ρ H ρ1 H1) (b : Ext K ρ1 H1 ρ2 H2) : Ext K ρ H ρ2 H2 := by
  refine ⟨?_, fun c o e n nt => ?_, fun p o u h => b.frz p o u (a.frz p o u h)⟩
  · obtain ⟨m, e⟩ := a.pre
    obtain ⟨m', e'⟩ := b.pre
    exact ⟨m ++ m', by rw [e', e, List.append_assoc]⟩
  · obtain ⟨h1, n1⟩ := a.keep c o e n nt
    exact b.keep c o h1 n1 nt
theorem Ext.at {K : PySem.W.Frag} {ρ ρ1 : List Addr} {H H1 : Hp} (a : Ext K ρ H ρ1 H1) {i : Nat} {x : Addr} (h : ρ[i]? = some x) : ρ1[i]? = some x := by
  obtain ⟨m, e⟩ := a.pre
  rw [e, List.getElem?_append_left (List.getElem?_eq_some_iff.mp h).1]
  exact h
mutual
theorem VR.monoT {K : PySem.W.Frag} {ρ ρ1 : List Addr} {H H1 : Hp} (e : ∀ (i : Nat) (a : Addr), ρ[i]? = some a → ρ1[i]? = some a) (t : ∀ p vs, TF K H p vs → TF K H1 p vs) : ∀ {x : SV} {v : V}, VR K ρ H x v → VR K ρ1 H1 x v
  | _, _, .non => .non
  | _, _, .bl b => .bl b
  | _, _, .int i => .int i
  | _, _, .str x => .str x
  | _, _, .ty n => .ty n
  | _, _, .tup h r => .tup (t _ _ h) (VRs.monoT e t r)
  | _, _, .loc h => .loc (e _ _ h)
theorem VRs.monoT {K : PySem.W.Frag} {ρ ρ1 : List Addr} {H H1 : Hp} (e : ∀ (i : Nat) (a : Addr), ρ[i]? = some a → ρ1[i]? = some a) (t : ∀ p vs, TF K H p vs → TF K H1 p vs) : ∀ {xs : List SV} {vs : List V}, VRs K ρ H xs vs → VRs K ρ1 H1 xs vs
  | _, _, .nil => .nil
  | _, _, .cons h r => .cons (VR.monoT e t h) (VRs.monoT e t r)
end
theorem VR.mono {K : PySem.W.Frag} {ρ ρ1 : List Addr} {H H1 : Hp} (e : Ext K ρ H ρ1 H1) {x : SV} {v : V} (r : VR K ρ H x v) : VR K ρ1 H1 x v := r.monoT (fun _ _ q => e.at q) e.tups
theorem VRs.mono {K : PySem.W.Frag} {ρ ρ1 : List Addr} {H H1 : Hp} (e : Ext K ρ H ρ1 H1) {xs : List SV} {vs : List V} (r : VRs K ρ H xs vs) : VRs K ρ1 H1 xs vs := r.monoT (fun _ _ q => e.at q) e.tups
theorem VRs.length {K : PySem.W.Frag} {ρ : List Addr} {H : Hp} : ∀ {xs : List SV} {vs : List V}, VRs K ρ H xs vs → xs.length = vs.length
  | _, _, .nil => rfl
  | _, _, .cons _ t => by simp [VRs.length t]
theorem VRs.get {K : PySem.W.Frag} {ρ : List Addr} {H : Hp} : ∀ {xs : List SV} {vs : List V}, VRs K ρ H xs vs → ∀ {i : Nat} {x : SV}, xs[i]? = some x → ∃ v, vs[i]? = some v ∧ VR K ρ H x v
  | _, _, .nil, _, _, e => by simp at e
  | _, _, .cons h _, 0, _, e => by simp at e; subst e; exact ⟨_, rfl, h⟩
  | _, _, .cons _ t, i + 1, _, e => by simpa using VRs.get t (by simpa using e)
theorem VRs.append {K : PySem.W.Frag} {ρ : List Addr} {H : Hp} : ∀ {xs ys : List SV} {vs ws : List V}, VRs K ρ H xs vs → VRs K ρ H ys ws → VRs K ρ H (xs ++ ys) (vs ++ ws)
  | _, _, _, _, .nil, s => s
  | _, _, _, _, .cons h t, s => .cons h (VRs.append t s)
theorem VRs.drop {K : PySem.W.Frag} {ρ : List Addr} {H : Hp} : ∀ (n : Nat) {xs : List SV} {vs : List V}, VRs K ρ H xs vs → VRs K ρ H (xs.drop n) (vs.drop n)
  | 0, _, _, r => r
  | _ + 1, _, _, .nil => .nil
  | n + 1, _, _, .cons _ t => VRs.drop n t
theorem VRs.take {K : PySem.W.Frag} {ρ : List Addr} {H : Hp} : ∀ (n : Nat) {xs : List SV} {vs : List V}, VRs K ρ H xs vs → VRs K ρ H (xs.take n) (vs.take n)
  | 0, _, _, _ => .nil
  | _ + 1, _, _, .nil => .nil
  | n + 1, _, _, .cons h t => .cons h (VRs.take n t)
theorem VRs.reverse {K : PySem.W.Frag} {ρ : List Addr} {H : Hp} : ∀ {xs : List SV} {vs : List V}, VRs K ρ H xs vs → VRs K ρ H xs.reverse vs.reverse
  | _, _, .nil => .nil
  | _, _, .cons h t => by
    rw [List.reverse_cons, List.reverse_cons]
    exact VRs.append (VRs.reverse t) (.cons h .nil)

/-! a key as a virtual value -/
mutual
def svK : NestedKey → SV
  | .none => .non
  | .num i => .int i
  | .text x => .str x
  | .tup ks => .tup (svKs ks)
def svKs : List NestedKey → List SV
  | [] => []
  | k :: ks => svK k :: svKs ks
end
/-! a virtual value as a key -/
mutual
def nkS : SV → Option NestedKey
  | .non => some .none
  | .int i => some (.num i)
  | .str x => some (.text x)
  | .tup xs => match nkSs xs with
    | some ks => some (.tup ks)
    | none => none
  | .bl _ => none
  | .ty _ => none
  | .loc _ => none
def nkSs : List SV → Option (List NestedKey)
  | [] => some []
  | x :: xs => match nkS x with
    | some k => match nkSs xs with
      | some ks => some (k :: ks)
      | none => none
    | none => none
end
mutual
theorem svK_nk : ∀ (x : SV) (k : NestedKey), nkS x = some k → svK k = x
  | .non, _, h => by cases h; rfl
  | .int _, _, h => by cases h; rfl
  | .str _, _, h => by cases h; rfl
  | .tup xs, k, h => by
    unfold nkS at h
    cases e : nkSs xs with
    | none => rw [e] at h; cases h
    | some ks =>
      rw [e] at h
      cases h
      unfold svK
      rw [svKs_nk xs ks e]
  | .bl _, _, h => by cases h
  | .ty _, _, h => by cases h
  | .loc _, _, h => by cases h
theorem svKs_nk : ∀ (xs : List SV) (ks : List NestedKey), nkSs xs = some ks → svKs ks = xs
  | [], _, h => by cases h; rfl
  | x :: xs, ks, h => by
    unfold nkSs at h
    cases e : nkS x with
    | none => rw [e] at h; cases h
    | some k =>
      rw [e] at h
      simp only [] at h
      cases e2 : nkSs xs with
      | none => rw [e2] at h; cases h
      | some r =>
        rw [e2] at h
        cases h
        unfold svKs
        rw [svK_nk x k e, svKs_nk xs r e2]
end

/-! ### a dict whose keys are tuples, by what is true of its one object -/
section
variable (P : Program) (w : World)
abbrev KX := NestedKey × Addr × V
abbrev KY := NestedKey × Addr × Value
def XY : List KX → List KY → Prop := Paired fun p q => p.1 = q.1 ∧ p.2.1 = q.2.1 ∧ RelV p.2.2 q.2.2
def DRaw (a : Addr) (xs : List KX) (h : Heap) : Prop :=
  xs.length ≤ sizeLine ∧ (a == sysModules) = false ∧ (xs.map (·.1)).Nodup ∧ ∃ vs : List KY, XY xs vs ∧ ∃ o es ep, h.get? a = some o ∧ o.ExactDict ∧ o.data = .dict es ep ∧ es.toList = vs.map (entryOfKey (nestedKind P w))
def DX (a : Addr) (xs : List KX) : HO := .ext (DRaw P w a xs)
theorem DX_ok {H : Hp} {h : Heap} {a : Addr} {xs : List KX} (d : DRaw P w a xs h) : ObjOk P w H h a (DX P w a xs) := by
  refine ⟨d, ?_, fun h1 h2 x k => ?_⟩
  · obtain ⟨_, _, _, _, _, o, _, _, ho, _⟩ := d
    exact ⟨o, ho⟩
  · obtain ⟨z, n, nd, vs, r, o, es, ep, ho, c⟩ := x
    exact ⟨z, n, nd, vs, r, o, es, ep, k o ho, c⟩
theorem DX_raw {H : Hp} {h : Heap} {a : Addr} {xs : List KX} (d : ObjOk P w H h a (DX P w a xs)) : DRaw P w a xs h := d.1
end

/-- the class, and the tables of code objects with the name that each tells -/
structure Bd where
  c : Addr
  T : List (Addr × Str)
/-- neither a table nor a code object -/
def NoCode (o : HO) : Prop := (∀ ps, o ≠ .tbl ps) ∧ ∀ c q, o ≠ LamX.CodeO c q
/-- an object's content -/
inductive OR (C : Bd) (P : Program) (w : World) (K : PySem.W.Frag) (ρ : List Addr) (H : Hp) (a : Addr) : VO → Prop where
  | lst {xs : List SV} {vs : List V} (h : H a = some (.lst vs)) (r : VRs K ρ H xs vs) : OR C P w K ρ H a (.lst xs)
  | dk {kvs : List (Key × SV)} {vs : List (Key × V)} (h : H a = some (.dK vs)) (e : kvs.map (·.1) = vs.map (·.1)) (r : VRs K ρ H (kvs.map (·.2)) (vs.map (·.2))) : OR C P w K ρ H a (.dk kvs)
  | dt {kvs : List (NestedKey × SV)} {vs : List KX} (h : H a = some (DX P w a vs)) (e : kvs.map (·.1) = vs.map (·.1)) (q : ∀ x ∈ vs, VR K [] H (svK x.1) (.ref x.2.1)) (d : ∀ x ∈ vs, x.1.depth ≤ 8) (r : VRs K ρ H (kvs.map (·.2)) (vs.map (·.2.2))) : OR C P w K ρ H a (.dt kvs)
  | ins {fs : List (Str × SV)} {vs : List (Str × V)} {dx : Addr} (h : H a = some (.ins C.c dx vs)) (e : fs.map (·.1) = vs.map (·.1)) (r : VRs K ρ H (fs.map (·.2)) (vs.map (·.2))) : OR C P w K ρ H a (.ins fs)
  | fz {o : Obj} {u : HO} (h : H a = some (.frz o u)) : OR C P w K ρ H a .fz

theorem heap_of (c : Addr) (vs : Array Value) : ∃ h : Heap, h.get? c = some { cls := .none, data := .fields vs } ∧ ∀ b o, h.get? b = some o → o.data = .fields vs := by
  refine ⟨⟨Array.replicate (c + 1) { cls := .none, data := .fields vs }, {}⟩, ?_, fun b o e => ?_⟩
  · unfold Heap.get?
    simp
  · unfold Heap.get? at e
    by_cases hb : b < c + 1
    · simp [hb] at e
      rw [← e]
    · simp [hb] at e
theorem DX_noCode {P : Program} {w : World} {a : Addr} {xs : List KX} : NoCode (DX P w a xs) := by
  refine ⟨fun ps z => ?_, fun c q z => ?_⟩
  · unfold DX at z
    cases z
  unfold DX LamX.CodeO at z
  have z := HO.ext.inj z
  obtain ⟨h, h1, h2⟩ := heap_of c #[.none, .str q 0]
  have hc : DRaw P w a xs h := by
    rw [z]
    exact ⟨_, _, _, h1, rfl, rfl⟩
  obtain ⟨_, _, _, vs, _, o, es, ep, ho, _, hd, _⟩ := hc
  have q := h2 _ _ ho
  rw [hd] at q
  cases q
theorem not_ext {o : HO} (h : ∀ φ, o ≠ .ext φ) (ht : ∀ ps, o ≠ .tbl ps) : NoCode o := ⟨ht, fun c q z => h _ (by rw [z]; rfl)⟩
theorem NoCode.lst {vs : List V} : NoCode (.lst vs) := not_ext (fun _ z => by cases z) fun _ z => by cases z
theorem NoCode.dK {vs : List (Key × V)} : NoCode (.dK vs) := not_ext (fun _ z => by cases z) fun _ z => by cases z
theorem NoCode.ins {c d : Addr} {vs : List (Str × V)} : NoCode (.ins c d vs) := not_ext (fun _ z => by cases z) fun _ z => by cases z
theorem NoCode.frz {o : Obj} {u : HO} : NoCode (.frz o u) := not_ext (fun _ z => by cases z) fun _ z => by cases z
structure Sim (C : Bd) (P : Program) (w : World) (K : PySem.W.Frag) (ρ : List Addr) (h : VH) (H : Hp) : Prop where
  len : ρ.length = h.n
  nd : ρ.Nodup
  live : ∀ a ∈ ρ, ∃ o, H a = some o ∧ NoCode o
  tab : LamX.Tabs C.T H
  obj : ∀ i o, h.get i = some o → ∃ a, ρ[i]? = some a ∧ OR C P w K ρ H a o
section
variable {C : Bd} {P : Program} {w : World} {K : PySem.W.Frag} {ρ ρ' : List Addr} {h : VH} {H H' : Hp}
theorem OR.mono {a : Addr} {o : VO} (e : Ext K ρ H ρ' H') (ha : H' a = H a) (x : OR C P w K ρ H a o) : OR C P w K ρ' H' a o := by
  cases x with
  | lst h r => exact .lst (ha.trans h) (r.mono e)
  | dk h k r => exact .dk (ha.trans h) k (r.mono e)
  | dt h k q d r => exact .dt (ha.trans h) k (fun x hx => (q x hx).monoT (fun _ _ z => z) e.tups) d (r.mono e)
  | ins h k r => exact .ins (ha.trans h) k (r.mono e)
  | fz h => exact .fz (ha.trans h)
theorem OR.there {a : Addr} {o : VO} (x : OR C P w K ρ H a o) : ∃ u, H a = some u ∧ NoCode u := by
  cases x with
  | lst h _ => exact ⟨_, h, .lst⟩
  | dk h _ _ => exact ⟨_, h, .dK⟩
  | dt h _ _ _ _ => exact ⟨_, h, DX_noCode⟩
  | ins h _ _ => exact ⟨_, h, .ins⟩
  | fz h => exact ⟨_, h, .frz⟩
theorem not_mut_tup {H : Hp} {a : Addr} {xs : List V} (h : H a = some (.tup xs)) : ¬ Mut (H a) := by rw [h]; exact fun z => z
theorem not_mut_frz {H : Hp} {a : Addr} {o : Obj} {u : HO} (h : H a = some (.frz o u)) : ¬ Mut (H a) := by rw [h]; exact fun z => z
theorem frz_upd {p : Addr} {o : HO} (hp : H p = none ∨ Mut (H p)) {q : Addr} {ob : Obj} {u : HO} (x : H q = some (.frz ob u)) : upd H p o q = some (.frz ob u) := by
  have ne : q ≠ p := fun z => by
    subst z
    rcases hp with hp | hp
    · rw [hp] at x; cases x
    · exact not_mut_frz x hp
  rw [upd_ne ne]
  exact x
/-- a new object that is not of the virtual heap -/
theorem Ext.fresh {p : Addr} {o : HO} (hp : H p = none) : Ext K ρ H ρ (upd H p o) :=
  ⟨⟨[], by simp⟩, fun b u e n _ => ⟨by rw [upd_ne (ne_of_none e hp)]; exact e, n⟩, fun _ _ _ x => frz_upd (.inl hp) x⟩
theorem Ext.new {p : Addr} {o : HO} (hp : H p = none) : Ext K ρ H (ρ ++ [p]) (upd H p o) :=
  ⟨⟨[p], rfl⟩, fun b u e n _ => ⟨by rw [upd_ne (ne_of_none e hp)]; exact e, fun m => by
    rcases List.mem_append.mp m with m | m
    · exact n m
    · exact ne_of_none e hp (List.mem_singleton.mp m)⟩, fun _ _ _ x => frz_upd (.inl hp) x⟩
theorem tab_upd {p P : Addr} {q : Str} {o : HO} (hl : ∃ u, H p = some u ∧ NoCode u) (t : LamX.TabS H P q) : LamX.TabS (upd H p o) P q := by
  obtain ⟨u, hu, n1, n2⟩ := hl
  obtain ⟨ps, h1, h2, h3⟩ := t
  refine ⟨ps, by rw [upd_ne fun z => n1 ps (Option.some.inj (hu.symm.trans (by rw [← z]; exact h1)))]; exact h1, h2, fun pos cv hc => ?_⟩
  obtain ⟨c, e1, e2⟩ := h3 pos cv hc
  exact ⟨c, e1, by rw [upd_ne fun z => n2 c q (Option.some.inj (hu.symm.trans (by rw [← z]; exact e2)))]; exact e2⟩
theorem Ext.write {p : Addr} {o : HO} (_ : ∃ u, H p = some u ∧ NoCode u) (hp : p ∈ ρ) (m : Mut (H p)) : Ext K ρ H ρ (upd H p o) :=
  ⟨⟨[], by simp⟩, fun b u e n _ => ⟨by rw [upd_ne (fun z => n (by rw [z]; exact hp))]; exact e, n⟩, fun _ _ _ x => frz_upd (.inr m) x⟩
theorem Sim.other (S : Sim C P w K ρ h H) (e : Ext K ρ H ρ H') (k : ∀ a ∈ ρ, H' a = H a) (ht : LamX.Tabs C.T H') : Sim C P w K ρ h H' :=
  ⟨S.len, S.nd, fun a ha => by rw [k a ha]; exact S.live a ha, ht, fun i o g => by
    obtain ⟨a, ra, x⟩ := S.obj i o g
    exact ⟨a, ra, x.mono e (k a (List.mem_of_getElem? ra))⟩⟩
theorem Sim.ne (S : Sim C P w K ρ h H) {p a : Addr} (hp : H p = none) (ha : a ∈ ρ) : a ≠ p := fun z => by
  obtain ⟨o, m, _⟩ := S.live a ha
  rw [z, hp] at m
  cases m
theorem Sim.fresh {p : Addr} {o : HO} (S : Sim C P w K ρ h H) (hp : H p = none) : Sim C P w K ρ h (upd H p o) :=
  S.other (Ext.fresh hp) (fun a ha => upd_ne (S.ne hp ha)) fun q hq => (S.tab q hq).ext fun b u e => by rw [upd_ne (ne_of_none e hp)]; exact e
theorem Sim.new {p : Addr} {o : HO} {vo : VO} (S : Sim C P w K ρ h H) (hp : H p = none) (x : OR C P w K (ρ ++ [p]) (upd H p o) p vo) : Sim C P w K (ρ ++ [p]) (h.new vo).2 (upd H p o) := by
  have E : Ext K ρ H (ρ ++ [p]) (upd H p o) := Ext.new hp
  have np : p ∉ ρ := fun m => S.ne hp m rfl
  refine ⟨by rw [List.length_append, S.len]; rfl, List.nodup_append.mpr ⟨S.nd, by simp, fun a ha b hb z => by
    rw [List.mem_singleton] at hb
    exact np (by rw [← hb, ← z]; exact ha)⟩, fun a ha => ?_, fun q hq => (S.tab q hq).ext fun b u e => by rw [upd_ne (ne_of_none e hp)]; exact e, fun i o' g => ?_⟩
  · rcases List.mem_append.mp ha with ha | ha
    · rw [upd_ne (S.ne hp ha)]; exact S.live a ha
    · rw [List.mem_singleton.mp ha]; exact x.there
  · have g : (Tr.put (Nat.succ h.n) h.t h.n vo).get i = some o' := g
    by_cases hi : i = h.n
    · subst hi
      rw [Tr.get_put_self _ h.t h.n vo (Nat.lt_two_pow_self (n := h.n + 1))] at g
      cases g
      exact ⟨p, by rw [← S.len]; simp, x⟩
    · rw [Tr.get_put _ h.t h.n i vo hi] at g
      obtain ⟨a, ra, y⟩ := S.obj i o' g
      have ma : a ∈ ρ := List.mem_of_getElem? ra
      exact ⟨a, E.at ra, y.mono E (upd_ne (S.ne hp ma))⟩
theorem Sim.write {i : Nat} {a : Addr} {o : HO} {vo : VO} (S : Sim C P w K ρ h H) (ra : ρ[i]? = some a) (m : Mut (H a)) (x : OR C P w K ρ (upd H a o) a vo) : Ext K ρ H ρ (upd H a o) ∧ Sim C P w K ρ (h.put i vo) (upd H a o) := by
  have ma : a ∈ ρ := List.mem_of_getElem? ra
  have E : Ext K ρ H ρ (upd H a o) := Ext.write (S.live a ma) ma m
  refine ⟨E, S.len, S.nd, fun b hb => ?_, fun q hq => tab_upd (S.live a ma) (S.tab q hq), fun j o' g => ?_⟩
  · by_cases e : b = a
    · rw [e]; exact x.there
    · rw [upd_ne e]; exact S.live b hb
  · have g : (Tr.put (Nat.succ i) h.t i vo).get j = some o' := g
    by_cases hj : j = i
    · subst hj
      rw [Tr.get_put_self _ h.t j vo (Nat.lt_two_pow_self (n := j + 1))] at g
      cases g
      exact ⟨a, ra, x⟩
    · rw [Tr.get_put _ h.t i j vo hj] at g
      obtain ⟨b, rb, y⟩ := S.obj j o' g
      have nb : b ≠ a := fun z => by
        subst z
        exact hj ((List.getElem?_inj (List.getElem?_eq_some_iff.mp rb).1 S.nd).mp (rb.trans ra.symm))
      exact ⟨b, rb, y.mono E (upd_ne nb)⟩
end
end Ev

namespace Ev
open PySem L2 PySem.Spec PyProof.Rows

abbrev Loc := List (Option SV)
abbrev EvR := Option (SV × VH)
abbrev EF := Loc → VH → EvR
abbrev TF' := Loc → VH → Option (Bool × VH)
abbrev AF := Loc → VH → Option (List SV × VH)
inductive Fl where
  | nx (l : Loc) (h : VH) | ret (v : SV) (h : VH)
abbrev SF := Loc → VH → Option Fl

structure LR (K : PySem.W.Frag) (ρ : List Addr) (H : Hp) (l : Loc) (σ : L2.St) : Prop where
  len : l.length = σ.length
  at_ : ∀ (i : Nat) (x : SV), l[i]? = some (some x) → ∃ v, σ[i]? = some (some v) ∧ VR K ρ H x v
theorem LR.mono {K : PySem.W.Frag} {ρ ρ' : List Addr} {H H' : Hp} {l : Loc} {σ : L2.St} (e : Ext K ρ H ρ' H') (L : LR K ρ H l σ) : LR K ρ' H' l σ :=
  ⟨L.len, fun i x q => let ⟨v, h1, h2⟩ := L.at_ i x q; ⟨v, h1, h2.mono e⟩⟩
theorem LR.set {K : PySem.W.Frag} {ρ : List Addr} {H : Hp} {l : Loc} {σ : L2.St} {i : Nat} {x : SV} {v : V} (L : LR K ρ H l σ) (r : VR K ρ H x v) : LR K ρ H (l.set i (some x)) (σ.set i (some v)) := by
  refine ⟨by rw [List.length_set, List.length_set, L.len], fun j y q => ?_⟩
  by_cases e : i = j
  · subst e
    by_cases hi : i < l.length
    · rw [List.getElem?_set_self hi] at q
      cases q
      exact ⟨v, List.getElem?_set_self (by rw [← L.len]; exact hi), r⟩
    · rw [List.getElem?_eq_none (by rw [List.length_set]; omega)] at q
      cases q
  · rw [List.getElem?_set_ne e] at q
    obtain ⟨u, h1, h2⟩ := L.at_ j y q
    exact ⟨u, by rw [List.getElem?_set_ne e]; exact h1, h2⟩

section
variable (C : Bd) (P : Program) (w : World) (K : PySem.W.Frag)
def tK (r : EvR) (ρ : List Addr) (H : Hp) (Q : VK) : Prop := ∃ v h', r = some (v, h') ∧ ∀ ρ' H' v', Ext K ρ H ρ' H' → Sim C P w K ρ' h' H' → VR K ρ' H' v v' → Q v' H'
def tEv (f : EF) : TE := fun σ H Q => ∃ ρ l h, Sim C P w K ρ h H ∧ LR K ρ H l σ ∧ tK C P w K (f l h) ρ H Q
def tTv (f : TF') : TT := fun σ H Q => ∃ ρ l h, Sim C P w K ρ h H ∧ LR K ρ H l σ ∧ ∃ b h', f l h = some (b, h') ∧ ∀ ρ' H', Ext K ρ H ρ' H' → Sim C P w K ρ' h' H' → Q b H'
def tAv (f : AF) : TA := fun σ H Q => ∃ ρ l h, Sim C P w K ρ h H ∧ LR K ρ H l σ ∧ ∃ vs h', f l h = some (vs, h') ∧ ∀ ρ' H' vs', Ext K ρ H ρ' H' → Sim C P w K ρ' h' H' → VRs K ρ' H' vs vs' → Q vs' H'
def tSv (f : SF) : TS := fun D σ H => ∃ ρ l h, Sim C P w K ρ h H ∧ LR K ρ H l σ ∧
  ((∃ l' h', f l h = some (.nx l' h') ∧ ∀ ρ' H' σ', Ext K ρ H ρ' H' → Sim C P w K ρ' h' H' → LR K ρ' H' l' σ' → D.nx σ' H') ∨
   (∃ v h', f l h = some (.ret v h') ∧ ∀ ρ' H' v', Ext K ρ H ρ' H' → Sim C P w K ρ' h' H' → VR K ρ' H' v v' → D.rt v' H'))
/-- an operation by values: one, two, a list of them -/
def Pr1 (r : V → Hp → VK → Prop) (p : SV → VH → EvR) : Prop := ∀ ρ h H a a' Q, Sim C P w K ρ h H → VR K ρ H a a' → tK C P w K (p a h) ρ H Q → r a' H Q
def Pr2 (r : R2) (p : SV → SV → VH → EvR) : Prop := ∀ ρ h H a b a' b' Q, Sim C P w K ρ h H → VR K ρ H a a' → VR K ρ H b b' → tK C P w K (p a b h) ρ H Q → r a' b' H Q
def PrL (r : List V → Hp → VK → Prop) (p : List SV → VH → EvR) : Prop := ∀ ρ h H xs vs Q, Sim C P w K ρ h H → VRs K ρ H xs vs → tK C P w K (p xs h) ρ H Q → r vs H Q
def PrM (r : V → List V → Hp → VK → Prop) (p : SV → List SV → VH → EvR) : Prop := ∀ ρ h H a xs a' vs Q, Sim C P w K ρ h H → VR K ρ H a a' → VRs K ρ H xs vs → tK C P w K (p a xs h) ρ H Q → r a' vs H Q
end

def evUn (p : SV → VH → EvR) (fa : EF) : EF := fun l h => match fa l h with
  | some (a, h1) => p a h1
  | none => none
def evBin (p : SV → SV → VH → EvR) (fa fb : EF) : EF := fun l h => match fa l h with
  | some (a, h1) => (match fb l h1 with
    | some (b, h2) => p a b h2
    | none => none)
  | none => none
def evArgs (p : List SV → VH → EvR) (fs : AF) : EF := fun l h => match fs l h with
  | some (xs, h1) => p xs h1
  | none => none
def evMeth (p : SV → List SV → VH → EvR) (fa : EF) (fs : AF) : EF := fun l h => match fa l h with
  | some (a, h1) => (match fs l h1 with
    | some (xs, h2) => p a xs h2
    | none => none)
  | none => none
def evNil : AF := fun _ h => some ([], h)
def evCons (fa : EF) (fs : AF) : AF := fun l h => match fa l h with
  | some (a, h1) => (match fs l h1 with
    | some (xs, h2) => some (a :: xs, h2)
    | none => none)
  | none => none
/-- a test: the value must be a bool -/
def evTest (fa : EF) : TF' := fun l h => match fa l h with
  | some (.bl b, h1) => some (b, h1)
  | _ => none
def evNot (ft : TF') : TF' := fun l h => match ft l h with
  | some (b, h1) => some (!b, h1)
  | none => none
def evAnd (ft fu : TF') : TF' := fun l h => match ft l h with
  | some (true, h1) => fu l h1
  | some (false, h1) => some (false, h1)
  | none => none
def evOr (ft fu : TF') : TF' := fun l h => match ft l h with
  | some (true, h1) => some (true, h1)
  | some (false, h1) => fu l h1
  | none => none
def evIf (ft : TF') (fa fb : EF) : EF := fun l h => match ft l h with
  | some (true, h1) => fa l h1
  | some (false, h1) => fb l h1
  | none => none
/-- and, or of values: all but the last are bools -/
def evAndV (fa fb : EF) : EF := fun l h => match fa l h with
  | some (.bl true, h1) => fb l h1
  | some (.bl false, h1) => some (.bl false, h1)
  | _ => none
def evOrV (fa fb : EF) : EF := fun l h => match fa l h with
  | some (.bl true, h1) => some (.bl true, h1)
  | some (.bl false, h1) => fb l h1
  | _ => none
def evNotV (fa : EF) : EF := fun l h => match fa l h with
  | some (.bl b, h1) => some (.bl (!b), h1)
  | _ => none
def evVar (i : Nat) : EF := fun l h => match l[i]? with
  | some (some x) => some (x, h)
  | _ => none
def evC (x : SV) : EF := fun _ h => some (x, h)

section
variable {C : Bd} {P : Program} {w : World} {K : PySem.W.Frag} {σ : L2.St} {H : Hp}
theorem tVar_ev {i : Nat} {Q : VK} (q : tEv C P w K (evVar i) σ H Q) : tVar i σ H Q := by
  obtain ⟨ρ, l, h, S, L, v, h', e, k⟩ := q
  unfold evVar at e
  split at e
  · rename_i x hx
    cases e
    obtain ⟨u, h1, r⟩ := L.at_ i _ hx
    exact ⟨u, h1, k ρ H u .refl S r⟩
  · cases e
theorem tC_ev {x : SV} {v : V} {Q : VK} (r : ∀ ρ H, VR K ρ H x v) (q : tEv C P w K (evC x) σ H Q) : tC v σ H Q := by
  obtain ⟨ρ, l, h, S, L, v', h', e, k⟩ := q
  cases e
  exact k ρ H v .refl S (r ρ H)
theorem tUn_ev {r : V → Hp → VK → Prop} {p : SV → VH → EvR} {fa : EF} {Q : VK} (hp : Pr1 C P w K r p) (q : tEv C P w K (evUn p fa) σ H Q) : tUn r (tEv C P w K fa) σ H Q := by
  obtain ⟨ρ, l, h, S, L, v, h', e, k⟩ := q
  unfold evUn at e
  split at e
  · rename_i a h1 ea
    exact ⟨ρ, l, h, S, L, a, h1, ea, fun ρ1 H1 a' x1 S1 ra => hp ρ1 h1 H1 a a' Q S1 ra ⟨v, h', e, fun ρ2 H2 v2 x2 S2 r2 => k ρ2 H2 v2 (x1.trans x2) S2 r2⟩⟩
  · cases e
theorem tOp_ev {r : R2} {p : SV → SV → VH → EvR} {fa fb : EF} {Q : VK} (hp : Pr2 C P w K r p) (q : tEv C P w K (evBin p fa fb) σ H Q) : tOp r (tEv C P w K fa) (tEv C P w K fb) σ H Q := by
  obtain ⟨ρ, l, h, S, L, v, h', e, k⟩ := q
  unfold evBin at e
  split at e
  · rename_i a h1 ea
    split at e
    · rename_i b h2 eb
      refine ⟨ρ, l, h, S, L, a, h1, ea, fun ρ1 H1 a' x1 S1 ra => ⟨ρ1, l, h1, S1, L.mono x1, b, h2, eb, fun ρ2 H2 b' x2 S2 rb => ?_⟩⟩
      exact hp ρ2 h2 H2 a b a' b' Q S2 (ra.mono x2) rb ⟨v, h', e, fun ρ3 H3 v3 x3 S3 r3 => k ρ3 H3 v3 ((x1.trans x2).trans x3) S3 r3⟩
    · cases e
  · cases e
theorem tNil_ev {Q : List V → Hp → Prop} (q : tAv C P w K evNil σ H Q) : tNil σ H Q := by
  obtain ⟨ρ, l, h, S, L, v, h', e, k⟩ := q
  cases e
  exact k ρ H [] .refl S .nil
theorem tCons_ev {fa : EF} {fs : AF} {Q : List V → Hp → Prop} (q : tAv C P w K (evCons fa fs) σ H Q) : tCons (tEv C P w K fa) (tAv C P w K fs) σ H Q := by
  obtain ⟨ρ, l, h, S, L, v, h', e, k⟩ := q
  unfold evCons at e
  split at e
  · rename_i a h1 ea
    split at e
    · rename_i xs h2 eb
      cases e
      exact ⟨ρ, l, h, S, L, a, h1, ea, fun ρ1 H1 a' x1 S1 ra => ⟨ρ1, l, h1, S1, L.mono x1, xs, _, eb, fun ρ2 H2 vs x2 S2 rb => k ρ2 H2 _ (x1.trans x2) S2 (.cons (ra.mono x2) rb)⟩⟩
    · cases e
  · cases e
theorem tCB_ev {r : List V → Hp → VK → Prop} {p : List SV → VH → EvR} {fs : AF} {Q : VK} (hp : PrL C P w K r p) (q : tEv C P w K (evArgs p fs) σ H Q) : tCB r (tAv C P w K fs) σ H Q := by
  obtain ⟨ρ, l, h, S, L, v, h', e, k⟩ := q
  unfold evArgs at e
  split at e
  · rename_i a h1 ea
    exact ⟨ρ, l, h, S, L, a, h1, ea, fun ρ1 H1 a' x1 S1 ra => hp ρ1 h1 H1 a a' Q S1 ra ⟨v, h', e, fun ρ2 H2 v2 x2 S2 r2 => k ρ2 H2 v2 (x1.trans x2) S2 r2⟩⟩
  · cases e
theorem tTest_ev {fa : EF} {Q : Bool → Hp → Prop} (q : tTv C P w K (evTest fa) σ H Q) : tB (tEv C P w K fa) σ H Q := by
  obtain ⟨ρ, l, h, S, L, v, h', e, k⟩ := q
  unfold evTest at e
  split at e
  · rename_i b h1 ea
    cases e
    refine ⟨ρ, l, h, S, L, _, _, ea, fun ρ1 H1 a' x1 S1 ra => ?_⟩
    cases ra
    exact ⟨_, rfl, k ρ1 H1 x1 S1⟩
  · cases e
theorem tNot_ev {ft : TF'} {Q : Bool → Hp → Prop} (q : tTv C P w K (evNot ft) σ H Q) : tNot (tTv C P w K ft) σ H Q := by
  obtain ⟨ρ, l, h, S, L, v, h', e, k⟩ := q
  unfold evNot at e
  split at e
  · rename_i b h1 ea
    cases e
    exact ⟨ρ, l, h, S, L, _, _, ea, fun ρ1 H1 x1 S1 => k ρ1 H1 x1 S1⟩
  · cases e
theorem tAnd_ev {ft fu : TF'} {Q : Bool → Hp → Prop} (q : tTv C P w K (evAnd ft fu) σ H Q) : tAnd (tTv C P w K ft) (tTv C P w K fu) σ H Q := by
  obtain ⟨ρ, l, h, S, L, v, h', e, k⟩ := q
  unfold evAnd at e
  split at e
  · rename_i h1 ea
    refine ⟨ρ, l, h, S, L, _, h1, ea, fun ρ1 H1 x1 S1 => iteT ?_⟩
    exact ⟨ρ1, l, h1, S1, L.mono x1, v, h', e, fun ρ2 H2 x2 S2 => k ρ2 H2 (x1.trans x2) S2⟩
  · rename_i h1 ea
    cases e
    exact ⟨ρ, l, h, S, L, _, _, ea, fun ρ1 H1 x1 S1 => iteF (k ρ1 H1 x1 S1)⟩
  · cases e
theorem tOr_ev {ft fu : TF'} {Q : Bool → Hp → Prop} (q : tTv C P w K (evOr ft fu) σ H Q) : tOr (tTv C P w K ft) (tTv C P w K fu) σ H Q := by
  obtain ⟨ρ, l, h, S, L, v, h', e, k⟩ := q
  unfold evOr at e
  split at e
  · rename_i h1 ea
    cases e
    exact ⟨ρ, l, h, S, L, _, _, ea, fun ρ1 H1 x1 S1 => iteT (k ρ1 H1 x1 S1)⟩
  · rename_i h1 ea
    refine ⟨ρ, l, h, S, L, _, h1, ea, fun ρ1 H1 x1 S1 => iteF ?_⟩
    exact ⟨ρ1, l, h1, S1, L.mono x1, v, h', e, fun ρ2 H2 x2 S2 => k ρ2 H2 (x1.trans x2) S2⟩
  · cases e
theorem tIf_ev {ft : TF'} {fa fb : EF} {Q : VK} (q : tEv C P w K (evIf ft fa fb) σ H Q) : tIf (tTv C P w K ft) (tEv C P w K fa) (tEv C P w K fb) σ H Q := by
  obtain ⟨ρ, l, h, S, L, v, h', e, k⟩ := q
  unfold evIf at e
  split at e
  · rename_i h1 ea
    refine ⟨ρ, l, h, S, L, _, h1, ea, fun ρ1 H1 x1 S1 => iteT ?_⟩
    exact ⟨ρ1, l, h1, S1, L.mono x1, v, h', e, fun ρ2 H2 v2 x2 S2 r2 => k ρ2 H2 v2 (x1.trans x2) S2 r2⟩
  · rename_i h1 ea
    refine ⟨ρ, l, h, S, L, _, h1, ea, fun ρ1 H1 x1 S1 => iteF ?_⟩
    exact ⟨ρ1, l, h1, S1, L.mono x1, v, h', e, fun ρ2 H2 v2 x2 S2 r2 => k ρ2 H2 v2 (x1.trans x2) S2 r2⟩
  · cases e
theorem tAndV_ev {fa fb : EF} {Q : VK} (q : tEv C P w K (evAndV fa fb) σ H Q) : tAndV (tEv C P w K fa) (tEv C P w K fb) σ H Q := by
  obtain ⟨ρ, l, h, S, L, v, h', e, k⟩ := q
  unfold evAndV at e
  split at e
  · rename_i h1 ea
    refine ⟨ρ, l, h, S, L, _, h1, ea, fun ρ1 H1 a' x1 S1 ra => ?_⟩
    cases ra
    exact ⟨true, rfl, iteT ⟨ρ1, l, h1, S1, L.mono x1, v, h', e, fun ρ2 H2 v2 x2 S2 r2 => k ρ2 H2 v2 (x1.trans x2) S2 r2⟩⟩
  · rename_i h1 ea
    cases e
    refine ⟨ρ, l, h, S, L, _, _, ea, fun ρ1 H1 a' x1 S1 ra => ?_⟩
    cases ra
    exact ⟨false, rfl, iteF (k ρ1 H1 _ x1 S1 (.bl false))⟩
  · cases e
theorem tOrV_ev {fa fb : EF} {Q : VK} (q : tEv C P w K (evOrV fa fb) σ H Q) : tOrV (tEv C P w K fa) (tEv C P w K fb) σ H Q := by
  obtain ⟨ρ, l, h, S, L, v, h', e, k⟩ := q
  unfold evOrV at e
  split at e
  · rename_i h1 ea
    cases e
    refine ⟨ρ, l, h, S, L, _, _, ea, fun ρ1 H1 a' x1 S1 ra => ?_⟩
    cases ra
    exact ⟨true, rfl, iteT (k ρ1 H1 _ x1 S1 (.bl true))⟩
  · rename_i h1 ea
    refine ⟨ρ, l, h, S, L, _, h1, ea, fun ρ1 H1 a' x1 S1 ra => ?_⟩
    cases ra
    exact ⟨false, rfl, iteF ⟨ρ1, l, h1, S1, L.mono x1, v, h', e, fun ρ2 H2 v2 x2 S2 r2 => k ρ2 H2 v2 (x1.trans x2) S2 r2⟩⟩
  · cases e
theorem tNotV_ev {fa : EF} {Q : VK} (q : tEv C P w K (evNotV fa) σ H Q) : tNotV (tEv C P w K fa) σ H Q := by
  obtain ⟨ρ, l, h, S, L, v, h', e, k⟩ := q
  unfold evNotV at e
  split at e
  · rename_i b h1 ea
    cases e
    refine ⟨ρ, l, h, S, L, _, _, ea, fun ρ1 H1 a' x1 S1 ra => ?_⟩
    cases ra
    exact ⟨_, rfl, k ρ1 H1 _ x1 S1 (.bl _)⟩
  · cases e
end

/-! ### weaker readings -/
section
variable {X : Cx}
theorem PE.imp {e : Expr} {t t' : TE} (h : PE X e t) (i : ∀ σ H Q, t' σ H Q → t σ H Q) : PE X e t' := ⟨fun pins s σ H Q I q => h.run pins s σ H Q I (i σ H Q q)⟩
theorem PT.imp {e : Expr} {t t' : TT} (h : PT X e t) (i : ∀ σ H Q, t' σ H Q → t σ H Q) : PT X e t' := ⟨fun pins s σ H Q I q => h.run pins s σ H Q I (i σ H Q q)⟩
theorem PW.imp {e : Expr} {t t' : TT} (h : PW X e t) (i : ∀ σ H Q, t' σ H Q → t σ H Q) : PW X e t' := ⟨fun wh pins s σ H Q I q => h.run wh pins s σ H Q I (i σ H Q q)⟩
theorem PA.imp {es : List Expr} {t t' : TA} (h : PA X es t) (i : ∀ σ H Q, t' σ H Q → t σ H Q) : PA X es t' := ⟨fun p pins s σ H Q I q => h.run p pins s σ H Q I (i σ H Q q)⟩
theorem PS.imp {st : Stmt} {t t' : TS} (h : PS X st t) (i : ∀ D σ H, t' D σ H → t D σ H) : PS X st t' := ⟨fun pins s σ H D I q => h.run pins s σ H D I (i D σ H q)⟩
theorem PSs.imp {st : List Stmt} {t t' : TS} (h : PSs X st t) (i : ∀ D σ H, t' D σ H → t D σ H) : PSs X st t' := ⟨fun pins s σ H D I q => h.run pins s σ H D I (i D σ H q)⟩
end

/-! ### statements -/
def evRet (fa : EF) : SF := fun l h => match fa l h with
  | some (v, h1) => some (.ret v h1)
  | none => none
def evRetN : SF := fun _ h => some (.ret .non h)
def evDrop (fa : EF) : SF := fun l h => match fa l h with
  | some (_, h1) => some (.nx l h1)
  | none => none
def evSkip : SF := fun l h => some (.nx l h)
def evSeq (f g : SF) : SF := fun l h => match f l h with
  | some (.nx l1 h1) => g l1 h1
  | some (.ret v h1) => some (.ret v h1)
  | none => none
def evIfS (ft : TF') (f g : SF) : SF := fun l h => match ft l h with
  | some (true, h1) => f l h1
  | some (false, h1) => g l h1
  | none => none
def evFail : SF := fun _ _ => none
section
variable {C : Bd} {P : Program} {w : World} {K : PySem.W.Frag} {σ : L2.St} {H : Hp} {D : Ends}
theorem tRet_ev {fa : EF} (q : tSv C P w K (evRet fa) D σ H) : tRet (tEv C P w K fa) D σ H := by
  obtain ⟨ρ, l, h, S, L, ⟨l', h', e, k⟩ | ⟨v, h', e, k⟩⟩ := q
  · unfold evRet at e; split at e <;> cases e
  · unfold evRet at e
    split at e
    · rename_i v1 h1 ea
      cases e
      exact ⟨ρ, l, h, S, L, v, h', ea, k⟩
    · cases e
theorem tRetN_ev (q : tSv C P w K evRetN D σ H) : tRetN D σ H := by
  obtain ⟨ρ, l, h, S, L, ⟨l', h', e, k⟩ | ⟨v, h', e, k⟩⟩ := q
  · cases e
  · cases e
    exact k ρ H .non .refl S .non
theorem tDrop_ev {fa : EF} (q : tSv C P w K (evDrop fa) D σ H) : tDrop (tEv C P w K fa) D σ H := by
  obtain ⟨ρ, l, h, S, L, ⟨l', h', e, k⟩ | ⟨v, h', e, k⟩⟩ := q
  · unfold evDrop at e
    split at e
    · rename_i v1 h1 ea
      cases e
      exact ⟨ρ, l, h, S, L, v1, _, ea, fun ρ1 H1 v' x1 S1 _ => k ρ1 H1 σ x1 S1 (L.mono x1)⟩
    · cases e
  · unfold evDrop at e; split at e <;> cases e
theorem tNext_ev (q : tSv C P w K evSkip D σ H) : tNext D σ H := by
  obtain ⟨ρ, l, h, S, L, ⟨l', h', e, k⟩ | ⟨v, h', e, k⟩⟩ := q
  · cases e
    exact k ρ H σ .refl S L
  · cases e
theorem tSeq_ev {f g : SF} (q : tSv C P w K (evSeq f g) D σ H) : tSeq (tSv C P w K f) (tSv C P w K g) D σ H := by
  obtain ⟨ρ, l, h, S, L, q⟩ := q
  refine ⟨ρ, l, h, S, L, ?_⟩
  cases ef : f l h with
  | none =>
    exfalso
    rcases q with ⟨l', h', e, k⟩ | ⟨v, h', e, k⟩ <;> (unfold evSeq at e; rw [ef] at e; cases e)
  | some r =>
    cases r with
    | ret v1 h1 =>
      rcases q with ⟨l', h', e, k⟩ | ⟨v, h', e, k⟩
      · unfold evSeq at e; rw [ef] at e; cases e
      · unfold evSeq at e
        rw [ef] at e
        cases e
        exact .inr ⟨_, _, rfl, k⟩
    | nx l1 h1 =>
      refine .inl ⟨l1, h1, rfl, fun ρ1 H1 σ1 x1 S1 L1 => ⟨ρ1, l1, h1, S1, L1, ?_⟩⟩
      rcases q with ⟨l', h', e, k⟩ | ⟨v, h', e, k⟩
      · unfold evSeq at e
        rw [ef] at e
        exact .inl ⟨l', h', e, fun ρ2 H2 σ2 x2 S2 L2 => k ρ2 H2 σ2 (x1.trans x2) S2 L2⟩
      · unfold evSeq at e
        rw [ef] at e
        exact .inr ⟨v, h', e, fun ρ2 H2 v2 x2 S2 L2 => k ρ2 H2 v2 (x1.trans x2) S2 L2⟩
/-- a statement's reading, started anew -/
theorem tSv.go {f f' : SF} {ρ ρ1 : List Addr} {l l1 : Loc} {h1 : VH} {H1 : Hp} {σ1 : L2.St} {r : Option Fl} (x1 : Ext K ρ H ρ1 H1) (S1 : Sim C P w K ρ1 h1 H1) (L1 : LR K ρ1 H1 l1 σ1) (er : r = f l1 h1)
    (q : (∃ l' h', r = some (.nx l' h') ∧ ∀ ρ' H' σ', Ext K ρ H ρ' H' → Sim C P w K ρ' h' H' → LR K ρ' H' l' σ' → D.nx σ' H') ∨
      (∃ v h', r = some (.ret v h') ∧ ∀ ρ' H' v', Ext K ρ H ρ' H' → Sim C P w K ρ' h' H' → VR K ρ' H' v v' → D.rt v' H')) : tSv C P w K f D σ1 H1 := by
  subst er
  refine ⟨ρ1, l1, h1, S1, L1, ?_⟩
  rcases q with ⟨l', h', e, k⟩ | ⟨v, h', e, k⟩
  · exact .inl ⟨l', h', e, fun ρ2 H2 σ2 x2 S2 L2 => k ρ2 H2 σ2 (x1.trans x2) S2 L2⟩
  · exact .inr ⟨v, h', e, fun ρ2 H2 v2 x2 S2 L2 => k ρ2 H2 v2 (x1.trans x2) S2 L2⟩
theorem tIfS_ev {ft : TF'} {f g : SF} (q : tSv C P w K (evIfS ft f g) D σ H) : tIfS (tTv C P w K ft) (tSv C P w K f) (tSv C P w K g) D σ H := by
  obtain ⟨ρ, l, h, S, L, q⟩ := q
  cases et : ft l h with
  | none =>
    exfalso
    rcases q with ⟨l', h', e, k⟩ | ⟨v, h', e, k⟩ <;> (unfold evIfS at e; rw [et] at e; cases e)
  | some r =>
    obtain ⟨b, h1⟩ := r
    refine ⟨ρ, l, h, S, L, b, h1, et, fun ρ1 H1 x1 S1 => ?_⟩
    cases b with
    | true => exact iteT (tSv.go (l := l) (f' := f) x1 S1 (L.mono x1) (by unfold evIfS; rw [et]) q)
    | false => exact iteF (tSv.go (l := l) (f' := f) x1 S1 (L.mono x1) (by unfold evIfS; rw [et]) q)
end
end Ev

namespace Ev
open PySem L2 PySem.Spec PyProof.Rows

/-! ### targets -/
inductive Tg where
  | one (i : Nat) | many (is : List Nat)
def setL : Loc → List Nat → List SV → Loc
  | l, i :: is, x :: xs => setL (l.set i (some x)) is xs
  | l, _, _ => l
def setS : L2.St → List Nat → List V → L2.St
  | σ, i :: is, x :: xs => setS (σ.set i (some x)) is xs
  | σ, _, _ => σ
def tgv : Tg → SV → Loc → Option Loc
  | .one i, v, l => some (l.set i (some v))
  | .many is, .tup xs, l => match Nat.beq xs.length is.length with
    | true => some (setL l is xs)
    | false => none
  | _, _, _ => none
def gsOf : List Nat → TGs
  | [] => gNil
  | i :: is => gCons (gName i) (gsOf is)
def tTg (K : PySem.W.Frag) : Tg → TG
  | .one i => gName i
  | .many is => gTup K is.length (gsOf is)
def Tg.ix : Tg → List Nat
  | .one i => [i]
  | .many is => is
theorem gsOf_of : ∀ (is : List Nat) (xs : List V) (σ : L2.St) (H : Hp) (Q : L2.St → Hp → Prop), xs.length = is.length → Q (setS σ is xs) H → gsOf is xs σ H Q
  | [], [], _, _, _, _, q => ⟨rfl, q⟩
  | [], _ :: _, _, _, _, e, _ => nomatch e
  | _ :: _, [], _, _, _, e, _ => nomatch e
  | i :: is, x :: xs, σ, H, Q, e, q => ⟨x, xs, rfl, gsOf_of is xs _ H Q (by simpa using e) q⟩
theorem LR.setL {K : PySem.W.Frag} {ρ : List Addr} {H : Hp} : ∀ (is : List Nat) {xs : List SV} {vs : List V} {l : Loc} {σ : L2.St}, LR K ρ H l σ → VRs K ρ H xs vs → LR K ρ H (setL l is xs) (setS σ is vs)
  | [], _, _, _, _, L, .nil => L
  | [], _, _, _, _, L, .cons _ _ => L
  | _ :: _, _, _, _, _, L, .nil => L
  | i :: is, _, _, _, _, L, .cons h t => LR.setL is (L.set h) t
theorem wipe_set (i : Nat) (x : Option V) : ∀ (vs : List Nat) (σ : L2.St), wipe (σ.set i x) vs = if i ∈ vs then wipe σ vs else (wipe σ vs).set i x
  | [], σ => by simp [wipe]
  | v :: vs, σ => by
    unfold wipe
    rw [wipe_set i x vs σ]
    by_cases h : i ∈ vs
    · simp [h]
    · by_cases e : i = v
      · subst e; simp [h]
      · rw [if_neg h, if_neg (by simp [h, e]), List.set_comm _ _ e]
theorem wipe_none (σ : L2.St) (u : Nat) : ∀ ws : List Nat, u ∈ ws → (wipe σ ws).set u none = wipe σ ws
  | [], h => by cases h
  | b :: ws, hm => by
    show ((wipe σ ws).set b none).set u none = (wipe σ ws).set b none
    by_cases e : u = b
    · subst e; simp
    · have hm' : u ∈ ws := by simpa [e] using hm
      rw [List.set_comm _ _ (Ne.symm e), wipe_none σ u ws hm']
theorem wipe_wipe (σ : L2.St) (vs : List Nat) : ∀ us : List Nat, (∀ i ∈ us, i ∈ vs) → wipe (wipe σ vs) us = wipe σ vs
  | [], _ => rfl
  | u :: us, h => by
    show (wipe (wipe σ vs) us).set u none = wipe σ vs
    rw [wipe_wipe σ vs us fun j hj => h j (List.mem_cons_of_mem _ hj)]
    exact wipe_none σ u vs (h u List.mem_cons_self)
theorem wipe_setS : ∀ (is : List Nat) (xs : List V) (σ : L2.St) {vs : List Nat}, (∀ i ∈ is, i ∈ vs) → wipe (setS σ is xs) vs = wipe σ vs
  | [], [], _, _, _ => rfl
  | [], _ :: _, _, _, _ => rfl
  | _ :: _, [], _, _, _ => rfl
  | i :: is, x :: xs, σ, vs, h => by
    show wipe (setS (σ.set i (some x)) is xs) vs = _
    rw [wipe_setS is xs _ fun j hj => h j (List.mem_cons_of_mem _ hj), wipe_set, if_pos (h i List.mem_cons_self)]
section
variable {K : PySem.W.Frag} {ρ : List Addr} {H : Hp} {l l' : Loc} {σ : L2.St} {x : SV} {v : V}
theorem tTg_ev {t : Tg} {Q : L2.St → Hp → Prop} (L : LR K ρ H l σ) (r : VR K ρ H x v) (e : tgv t x l = some l') (k : ∀ σ', LR K ρ H l' σ' → (∀ vs : List Nat, (∀ i ∈ t.ix, i ∈ vs) → wipe σ' vs = wipe σ vs) → Q σ' H) : tTg K t v σ H Q := by
  cases t with
  | one i =>
    cases e
    refine k _ (L.set r) fun vs h => ?_
    rw [wipe_set, if_pos (h i (by simp [Tg.ix]))]
  | many is =>
    cases r with
    | @tup p xs vs h t =>
      have e : (match Nat.beq xs.length is.length with | true => some (setL l is xs) | false => none) = some l' := e
      split at e
      · cases e
        rename_i hlen
        have hl := Nat.eq_of_beq_eq_true hlen
        exact ⟨_, _, rfl, h.sq, by rw [← hl, t.length], gsOf_of _ _ _ _ _ (by rw [← hl, t.length]) (k _ (L.setL is t) fun vs hv => wipe_setS _ _ _ hv)⟩
      · cases e
    | _ => cases e
end

/-! ### assignments -/
def evAsg (t : Tg) (fa : EF) : SF := fun l h => match fa l h with
  | some (v, h1) => (match tgv t v l with
    | some l1 => some (.nx l1 h1)
    | none => none)
  | none => none
def evPar (is : List Nat) (fs : AF) : SF := fun l h => match fs l h with
  | some (vs, h1) => some (.nx (setL l is vs) h1)
  | none => none
section
variable {C : Bd} {P : Program} {w : World} {K : PySem.W.Frag} {σ : L2.St} {H : Hp} {D : Ends}
theorem tAsg_ev {t : Tg} {fa : EF} (q : tSv C P w K (evAsg t fa) D σ H) : tAsg (tEv C P w K fa) (tTg K t) D σ H := by
  obtain ⟨ρ, l, h, S, L, ⟨l', h', e, k⟩ | ⟨v, h', e, k⟩⟩ := q
  · unfold evAsg at e
    split at e
    · rename_i v h1 ea
      split at e
      · rename_i l1 et
        cases e
        refine ⟨ρ, l, h, S, L, v, _, ea, fun ρ1 H1 v' x1 S1 r => ?_⟩
        exact tTg_ev (L.mono x1) r et fun σ' L' _ => k ρ1 H1 σ' x1 S1 L'
      · cases e
    · cases e
  · unfold evAsg at e
    split at e
    · split at e <;> cases e
    · cases e
theorem evCons_inv {fa : EF} {fs : AF} {l : Loc} {h h' : VH} {vs : List SV} (e : evCons fa fs l h = some (vs, h')) : ∃ a xs h1, vs = a :: xs ∧ fa l h = some (a, h1) ∧ fs l h1 = some (xs, h') := by
  unfold evCons at e
  split at e
  · rename_i a h1 ea
    split at e
    · rename_i xs h2 eb
      cases e
      exact ⟨a, xs, h1, rfl, ea, eb⟩
    · cases e
  · cases e
theorem tPar_ev {i j : Nat} {fa fb : EF} (q : tSv C P w K (evPar [i, j] (evCons fa (evCons fb evNil))) D σ H) : tPar i j (tAv C P w K (evCons fa (evCons fb evNil))) D σ H := by
  obtain ⟨ρ, l, h, S, L, ⟨l', h', e, k⟩ | ⟨v, h', e, k⟩⟩ := q
  · unfold evPar at e
    split at e
    · rename_i vs h1 ea
      cases e
      refine ⟨ρ, l, h, S, L, vs, _, ea, fun ρ1 H1 vs' x1 S1 r => ?_⟩
      have e2 : ∃ a b, vs = [a, b] := by
        obtain ⟨a, xs, h2, rfl, _, e3⟩ := evCons_inv ea
        obtain ⟨b, ys, h3, rfl, _, e4⟩ := evCons_inv e3
        cases e4
        exact ⟨_, _, rfl⟩
      obtain ⟨a, b, rfl⟩ := e2
      cases r with
      | cons ra t =>
        cases t with
        | cons rb t =>
          cases t
          exact ⟨_, _, rfl, k ρ1 H1 _ x1 S1 (((L.mono x1).set ra).set rb)⟩
    · cases e
  · unfold evPar at e
    split at e <;> cases e
theorem tPar3_ev {i j m : Nat} {fa fb fc : EF} (q : tSv C P w K (evPar [i, j, m] (evCons fa (evCons fb (evCons fc evNil)))) D σ H) : tPar3 i j m (tAv C P w K (evCons fa (evCons fb (evCons fc evNil)))) D σ H := by
  obtain ⟨ρ, l, h, S, L, ⟨l', h', e, k⟩ | ⟨v, h', e, k⟩⟩ := q
  · unfold evPar at e
    split at e
    · rename_i vs h1 ea
      cases e
      refine ⟨ρ, l, h, S, L, vs, _, ea, fun ρ1 H1 vs' x1 S1 r => ?_⟩
      have e2 : ∃ a b c, vs = [a, b, c] := by
        obtain ⟨a, xs, h2, rfl, _, e3⟩ := evCons_inv ea
        obtain ⟨b, ys, h3, rfl, _, e4⟩ := evCons_inv e3
        obtain ⟨c, zs, h4, rfl, _, e5⟩ := evCons_inv e4
        cases e5
        exact ⟨_, _, _, rfl⟩
      obtain ⟨a, b, c, rfl⟩ := e2
      cases r with
      | cons ra t =>
        cases t with
        | cons rb t =>
          cases t with
          | cons rc t =>
            cases t
            exact ⟨_, _, _, rfl, k ρ1 H1 _ x1 S1 ((((L.mono x1).set ra).set rb).set rc)⟩
    · cases e
  · unfold evPar at e
    split at e <;> cases e
end

/-! ### what is walked -/
inductive VSq where
  | lst (i : Nat) | tup (xs : List SV)
inductive VIt where
  | seq (s : VSq) | rng (lo : Int) (n : Nat) | enum (s : VSq) | zip (s t : VSq) | pairs (kvs : List (SV × SV))
def atE (xs : List SV) (k : Nat) : Option (Option SV) := match xs[k]? with
  | some x => some (some x)
  | none => match Nat.beq k xs.length with
    | true => some none
    | false => none
def sqAt : VSq → Nat → VH → Option (Option SV)
  | .lst i, k, h => match h.get i with
    | some (.lst xs) => atE xs k
    | _ => none
  | .tup xs, k, _ => atE xs k
def nextV : VIt → Nat → VH → Option (Option SV)
  | .seq s, k, h => sqAt s k h
  | .rng lo n, k, _ => match Nat.blt k n with
    | true => some (some (.int (lo + k)))
    | false => some none
  | .enum s, k, h => match sqAt s k h with
    | some (some x) => some (some (.tup [.int k, x]))
    | some none => some none
    | none => none
  | .zip s t, k, h => match sqAt s k h with
    | some (some x) => (match sqAt t k h with
      | some (some y) => some (some (.tup [x, y]))
      | some none => some none
      | none => none)
    | some none => (match sqAt t k h with
      | some _ => some none
      | none => none)
    | none => none
  | .pairs kvs, k, _ => match kvs[k]? with
    | some (x, y) => some (some (.tup [x, y]))
    | none => match Nat.beq k kvs.length with
      | true => some none
      | false => none
/-- its items are values as such (else: tuples just made, to be unpacked) -/
def VIt.sq : VIt → Bool
  | .seq _ => true
  | .rng _ _ => true
  | .enum _ => false
  | .zip _ _ => false
  | .pairs _ => false
def YR (b : Bool) (K : PySem.W.Frag) (ρ : List Addr) (H : Hp) (x : SV) (v : V) : Prop := match b with
  | true => VR K ρ H x v
  | false => ∃ p xs vs, x = .tup xs ∧ v = .ref p ∧ SqT K H p vs ∧ VRs K ρ H xs vs
def tgl (b : Bool) (t : Tg) (v : SV) (l : Loc) : Option Loc := match b with
  | true => tgv t v l
  | false => match t with
    | .one _ => none
    | .many is => tgv (.many is) v l
theorem tTgl_ev {K : PySem.W.Frag} {ρ : List Addr} {H : Hp} {l l' : Loc} {σ : L2.St} {x : SV} {v : V} {b : Bool} {t : Tg} {Q : L2.St → Hp → Prop} (L : LR K ρ H l σ) (r : YR b K ρ H x v) (e : tgl b t x l = some l') (k : ∀ σ', LR K ρ H l' σ' → (∀ vs : List Nat, (∀ i ∈ t.ix, i ∈ vs) → wipe σ' vs = wipe σ vs) → Q σ' H) : tTg K t v σ H Q := by
  cases b with
  | true => exact tTg_ev L r e k
  | false =>
    cases t with
    | one i => cases e
    | many is =>
      obtain ⟨p, xs, vs, rfl, rfl, hs, rs⟩ := r
      have e : (match Nat.beq xs.length is.length with | true => some (setL l is xs) | false => none) = some l' := e
      split at e
      · cases e
        rename_i hlen
        have hl := Nat.eq_of_beq_eq_true hlen
        exact ⟨_, _, rfl, hs, by rw [← hl, rs.length], gsOf_of _ _ _ _ _ (by rw [← hl, rs.length]) (k _ (L.setL is rs) fun vs hv => wipe_setS _ _ _ hv)⟩
      · cases e
abbrev IF := Loc → VH → Option (VIt × VH)
section
variable (C : Bd) (P : Program) (w : World) (K : PySem.W.Frag)
def ItR (ρ0 : List Addr) (H0 : Hp) (it : VIt) (J : It) : Prop := ∀ ρ h H, Ext K ρ0 H0 ρ H → Sim C P w K ρ h H → ∀ k, (nextV it k h = some none → J.stop k H) ∧
  ∀ v, nextV it k h = some (some v) → J.go k H ∧ ∀ x H', J.yld k H x H' → Ext K ρ H ρ H' ∧ Sim C P w K ρ h H' ∧ YR it.sq K ρ H' v x
def tIv (f : IF) : TI := fun σ H R => ∃ ρ l h, Sim C P w K ρ h H ∧ LR K ρ H l σ ∧ ∃ it h', f l h = some (it, h') ∧ ∀ ρ' H' J, Ext K ρ H ρ' H' → Sim C P w K ρ' h' H' → ItR C P w K ρ' H' it J → R J H'
end
def loopF (it : VIt) (t : Tg) (fb : SF) : Nat → Nat → Loc → VH → Option Fl
  | 0, _, _, _ => none
  | n + 1, k, l, h => match nextV it k h with
    | some none => some (.nx l h)
    | some (some v) => (match tgl it.sq t v l with
      | some l1 => (match fb l1 h with
        | some (.nx l2 h2) => loopF it t fb n (Nat.succ k) l2 h2
        | some (.ret v h2) => some (.ret v h2)
        | none => none)
      | none => none)
    | none => none
def evFor (fs : IF) (t : Tg) (fb : SF) : SF := fun l h => match fs l h with
  | some (it, h1) => loopF it t fb 4096 0 l h1
  | none => none
def wipeL : Loc → List Nat → Loc
  | l, [] => l
  | l, v :: vs => (wipeL l vs).set v none
def loopC (it : VIt) (t : Tg) (ft : TF') (fe : EF) (D : Nat) : Nat → Nat → Loc → VH → Option VH
  | 0, _, _, _ => none
  | n + 1, k, l, h => match nextV it k h with
    | some none => some h
    | some (some v) => (match tgl it.sq t v l with
      | some l1 => (match ft l1 h with
        | some (true, h2) => (match fe l1 h2 with
          | some (y, h3) => (match h3.get D with
            | some (.lst acc) => (match Nat.blt acc.length 4096 with
              | true => loopC it t ft fe D n (Nat.succ k) l (h3.put D (.lst (acc ++ [y])))
              | false => none)
            | _ => none)
          | none => none)
        | some (false, h2) => loopC it t ft fe D n (Nat.succ k) l h2
        | none => none)
      | none => none)
    | none => none
def evComp (fs : IF) (t : Tg) (ft : TF') (fe : EF) (vs : List Nat) : EF := fun l h => match fs l h with
  | some (it, h1) => (match loopC it t ft fe h1.n 4096 0 (wipeL l vs) (h1.new (.lst [])).2 with
    | some h2 => some (.loc h1.n, h2)
    | none => none)
  | none => none
theorem LR.wipe {K : PySem.W.Frag} {ρ : List Addr} {H : Hp} {l : Loc} {σ : L2.St} (L : LR K ρ H l σ) : ∀ vs : List Nat, LR K ρ H (wipeL l vs) (wipe σ vs)
  | [] => L
  | v :: vs => by
    have L' := L.wipe vs
    unfold wipeL L2.wipe
    refine ⟨by rw [List.length_set, List.length_set, L'.len], fun j y q => ?_⟩
    by_cases e : v = j
    · subst e
      by_cases hi : v < (wipeL l vs).length
      · rw [List.getElem?_set_self hi] at q
        cases q
      · rw [List.getElem?_eq_none (by rw [List.length_set]; omega)] at q
        cases q
    · rw [List.getElem?_set_ne e] at q
      obtain ⟨u, h1, h2⟩ := L'.at_ j y q
      exact ⟨u, by rw [List.getElem?_set_ne e]; exact h1, h2⟩
section
variable {C : Bd} {P : Program} {w : World} {K : PySem.W.Frag} {σ : L2.St} {H : Hp} {D : Ends}
theorem tFor_ev {fs : IF} {t : Tg} {fb : SF} (q : tSv C P w K (evFor fs t fb) D σ H) : tFor (tIv C P w K fs) (tTg K t) (tSv C P w K fb) D σ H := by
  obtain ⟨ρ, l, h, S, L, q⟩ := q
  cases es : fs l h with
  | none =>
    exfalso
    rcases q with ⟨l', h', e, k⟩ | ⟨v, h', e, k⟩ <;> (unfold evFor at e; rw [es] at e; cases e)
  | some r =>
    obtain ⟨it, h1⟩ := r
    have ef : evFor fs t fb l h = loopF it t fb 4096 0 l h1 := by unfold evFor; rw [es]
    rw [ef] at q
    refine ⟨ρ, l, h, S, L, it, h1, es, fun ρ1 H1 J x1 S1 R => ?_⟩
    let Fin (r : Option Fl) : Prop := (∃ l' h', r = some (.nx l' h') ∧ ∀ ρ' H' σ', Ext K ρ H ρ' H' → Sim C P w K ρ' h' H' → LR K ρ' H' l' σ' → D.nx σ' H') ∨
      (∃ v h', r = some (.ret v h') ∧ ∀ ρ' H' v', Ext K ρ H ρ' H' → Sim C P w K ρ' h' H' → VR K ρ' H' v v' → D.rt v' H')
    refine ⟨fun k m σ' H' => ∃ ρ' l' h', Ext K ρ1 H1 ρ' H' ∧ Sim C P w K ρ' h' H' ∧ LR K ρ' H' l' σ' ∧ Fin (loopF it t fb m k l' h'), ⟨4096, ρ1, l, h1, .refl, S1, L.mono x1, q⟩, ?_⟩
    rintro k m σ2 H2 ⟨ρ2, l2, h2, x2, S2, L2, q2⟩
    cases m with
    | zero => rcases q2 with ⟨l', h', e, _⟩ | ⟨v, h', e, _⟩ <;> cases e
    | succ m =>
      cases en : nextV it k h2 with
      | none =>
        exfalso
        rcases q2 with ⟨l', h', e, _⟩ | ⟨v, h', e, _⟩ <;> (unfold loopF at e; rw [en] at e; cases e)
      | some r =>
        cases r with
        | none =>
          refine .inl ⟨(R ρ2 h2 H2 x2 S2 k).1 en, ?_⟩
          rcases q2 with ⟨l', h', e, kk⟩ | ⟨v, h', e, _⟩
          · unfold loopF at e; rw [en] at e; cases e
            exact kk ρ2 H2 σ2 (x1.trans x2) S2 L2
          · unfold loopF at e; rw [en] at e; cases e
        | some v =>
          obtain ⟨hgo, hy⟩ := (R ρ2 h2 H2 x2 S2 k).2 v en
          refine .inr ⟨hgo, fun σ' H' => ∃ ρ' l' h', Ext K ρ1 H1 ρ' H' ∧ Sim C P w K ρ' h' H' ∧ LR K ρ' H' l' σ' ∧ Fin (loopF it t fb m (k + 1) l' h'), fun σ' H' n => ⟨m, Nat.lt_succ_self m, n⟩, fun x H3 y => ?_⟩
          obtain ⟨x3, S3, r3⟩ := hy x H3 y
          have L3 := L2.mono x3
          cases et : tgl it.sq t v l2 with
          | none =>
            exfalso
            rcases q2 with ⟨l', h', e, _⟩ | ⟨v, h', e, _⟩ <;> (unfold loopF at e; rw [en] at e; simp only [] at e; rw [et] at e; cases e)
          | some l3 =>
            refine tTgl_ev L3 r3 et fun σ4 L4 _ => ⟨ρ2, l3, h2, S3, L4, ?_⟩
            have x13 : Ext K ρ H ρ2 H3 := (x1.trans x2).trans x3
            cases eb : fb l3 h2 with
            | none =>
              exfalso
              rcases q2 with ⟨l', h', e, _⟩ | ⟨v, h', e, _⟩ <;> (unfold loopF at e; rw [en] at e; simp only [] at e; rw [et] at e; simp only [] at e; rw [eb] at e; cases e)
            | some r =>
              cases r with
              | nx l5 h5 =>
                refine .inl ⟨l5, h5, rfl, fun ρ5 H5 σ5 x5 S5 L5 => ⟨ρ5, l5, h5, (x2.trans x3).trans x5, S5, L5, ?_⟩⟩
                have e : loopF it t fb (m + 1) k l2 h2 = loopF it t fb m (k + 1) l5 h5 := by
                  rw [loopF, en]; simp only []; rw [et]; simp only []; rw [eb]
                rw [e] at q2
                exact q2
              | ret v5 h5 =>
                have e : loopF it t fb (m + 1) k l2 h2 = some (.ret v5 h5) := by
                  rw [loopF, en]; simp only []; rw [et]; simp only []; rw [eb]
                rw [e] at q2
                rcases q2 with ⟨l', h', e, _⟩ | ⟨v6, h', e, kk⟩
                · cases e
                · cases e
                  exact .inr ⟨_, _, rfl, fun ρ5 H5 v' x5 S5 r5 => kk ρ5 H5 v' (x13.trans x5) S5 r5⟩
theorem tLc_ev {fs : IF} {t : Tg} {ft : TF'} {fe : EF} {vs : List Nat} {Q : VK} (hv : ∀ i ∈ t.ix, i ∈ vs) (q : tEv C P w K (evComp fs t ft fe vs) σ H Q) : tLc (tIv C P w K fs) (tTg K t) (tTv C P w K ft) (tEv C P w K fe) vs σ H Q := by
  obtain ⟨ρ, l, h, S, L, v, h', e, k⟩ := q
  unfold evComp at e
  split at e
  · rename_i it h1 es
    split at e
    · rename_i h2 el
      cases e
      refine ⟨ρ, l, h, S, L, it, h1, es, fun ρ1 H1 J x1 S1 R A hA => ?_⟩
      have xA : Ext K ρ1 H1 (ρ1 ++ [A]) (upd H1 A (.lst [])) := Ext.new hA
      have SA : Sim C P w K (ρ1 ++ [A]) (h1.new (.lst [])).2 (upd H1 A (.lst [])) := S1.new hA (.lst upd_same .nil)
      have rA : (ρ1 ++ [A])[h1.n]? = some A := by rw [← S1.len]; simp
      refine ⟨fun i m H' => ∃ ρ' hh, Ext K (ρ1 ++ [A]) (upd H1 A (.lst [])) ρ' H' ∧ Sim C P w K ρ' hh H' ∧ loopC it t ft fe h1.n m i (wipeL l vs) hh = some h', ⟨4096, _, _, .refl, SA, el⟩, ?_⟩
      rintro i m H2 ⟨ρ2, hh, x2, S2, q2⟩
      have x02 : Ext K ρ H ρ2 H2 := (x1.trans xA).trans x2
      have Lw : LR K ρ2 H2 (wipeL l vs) (wipe σ vs) := (L.wipe vs).mono x02
      cases m with
      | zero => cases q2
      | succ m =>
        unfold loopC at q2
        split at q2
        · rename_i en
          cases q2
          exact .inl ⟨(R ρ2 _ H2 (xA.trans x2) S2 i).1 en, k ρ2 H2 (.ref A) x02 S2 (.loc (x2.at rA))⟩
        · rename_i v en
          obtain ⟨hgo, hy⟩ := (R ρ2 hh H2 (xA.trans x2) S2 i).2 v en
          refine .inr ⟨hgo, fun H' => ∃ ρ' hh, Ext K (ρ1 ++ [A]) (upd H1 A (.lst [])) ρ' H' ∧ Sim C P w K ρ' hh H' ∧ loopC it t ft fe h1.n m (i + 1) (wipeL l vs) hh = some h', fun H' n => ⟨m, Nat.lt_succ_self m, n⟩, fun x H3 y => ?_⟩
          obtain ⟨x3, S3, r3⟩ := hy x H3 y
          split at q2
          · rename_i l3 et
            refine tTgl_ev (Lw.mono x3) r3 et fun σ4 L4 hw => ⟨?_, ρ2, l3, hh, S3, L4, ?_⟩
            · rw [hw vs hv]
              exact wipe_wipe σ vs vs fun _ hi => hi
            · split at q2
              · rename_i h5 etst
                refine ⟨true, h5, etst, fun ρ5 H5 x5 S5 => iteT ?_⟩
                split at q2
                · rename_i y6 h6 ee
                  refine ⟨ρ5, l3, h5, S5, L4.mono x5, y6, h6, ee, fun ρ6 H6 v6 x6 S6 r6 => ?_⟩
                  split at q2
                  · rename_i acc eg
                    split at q2
                    · rename_i hlt
                      have x26 : Ext K (ρ1 ++ [A]) (upd H1 A (.lst [])) ρ6 H6 := ((x2.trans x3).trans x5).trans x6
                      have rA6 := x26.at rA
                      obtain ⟨a, ra, o⟩ := S6.obj _ _ eg
                      rw [rA6] at ra
                      cases ra
                      cases o with
                      | @lst _ vs' ho hr =>
                        have hl : acc.length < 4096 := Nat.le_of_ble_eq_true hlt
                        refine ⟨vs', ho, by rw [← hr.length]; exact Nat.lt_trans hl (by decide), ?_⟩
                        have m6 : Mut (H6 A) := by rw [ho]; trivial
                        have E6 : Ext K ρ6 H6 ρ6 (upd H6 A (.lst (vs' ++ [v6]))) := Ext.write (S6.live _ (List.mem_of_getElem? rA6)) (List.mem_of_getElem? rA6) m6
                        obtain ⟨_, S7⟩ := S6.write (o := .lst (vs' ++ [v6])) (vo := .lst (acc ++ [y6])) rA6 m6 (.lst upd_same ((hr.mono E6).append (.cons (r6.mono E6) .nil)))
                        exact ⟨ρ6, _, x26.trans E6, S7, q2⟩
                    · cases q2
                  · cases q2
                · cases q2
              · rename_i h5 etst
                exact ⟨false, h5, etst, fun ρ5 H5 x5 S5 => iteF ⟨ρ5, h5, (x2.trans x3).trans x5, S5, q2⟩⟩
              · cases q2
          · cases q2
        · cases q2
    · cases e
  · cases e
end
end Ev

namespace Ev
open PySem L2 PySem.Spec PyProof.Rows

/-! ## operations by values -/
def lim (n : Nat) : Bool := Nat.blt n 4096
theorem lim_le {n : Nat} (h : lim n = true) : n ≤ sizeLine := by
  have h : n + 1 ≤ 4096 := Nat.le_of_ble_eq_true h
  rw [sizeLine_eq]
  omega
def mkTup (xs : List SV) (h : VH) : EvR := match lim xs.length with
  | true => some (.tup xs, h)
  | false => none
def mkLst (xs : List SV) (h : VH) : EvR := match lim xs.length with
  | true => some (.loc h.n, (h.new (.lst xs)).2)
  | false => none
section
variable {C : Bd} {P : Program} {w : World} {K : PySem.W.Frag} {ρ : List Addr} {h : VH} {H : Hp}
/-- a new tuple -/
theorem mkTup_ok {xs : List SV} {vs : List V} {Q : VK} (S : Sim C P w K ρ h H) (r : VRs K ρ H xs vs) (k : tK C P w K (mkTup xs h) ρ H Q) :
    vs.length ≤ sizeLine ∧ ∀ p o, o.dict = none → H p = none → Q (.ref p) (upd H p (.frz o (.tup vs))) := by
  obtain ⟨v, h', e, k⟩ := k
  unfold mkTup at e
  split at e
  · rename_i hl
    cases e
    refine ⟨by rw [← r.length]; exact lim_le hl, fun p o hd hp => k ρ _ _ (Ext.fresh hp) (S.fresh hp) ?_⟩
    exact .tup (.inl ⟨o, upd_same, hd⟩) (r.mono (Ext.fresh hp))
  · cases e
theorem mkLst_ok {xs : List SV} {vs : List V} {Q : VK} (S : Sim C P w K ρ h H) (r : VRs K ρ H xs vs) (k : tK C P w K (mkLst xs h) ρ H Q) :
    vs.length ≤ sizeLine ∧ ∀ p, H p = none → Q (.ref p) (upd H p (.lst vs)) := by
  obtain ⟨v, h', e, k⟩ := k
  unfold mkLst at e
  split at e
  · rename_i hl
    cases e
    refine ⟨by rw [← r.length]; exact lim_le hl, fun p hp => ?_⟩
    have E : Ext K ρ H (ρ ++ [p]) (upd H p (.lst vs)) := Ext.new hp
    exact k (ρ ++ [p]) _ _ E (S.new hp (.lst upd_same (r.mono E))) (.loc (by rw [← S.len]; simp))
  · cases e
theorem tK.of {v : SV} {h' : VH} {r : EvR} {Q : VK} (k : tK C P w K r ρ H Q) (e : r = some (v, h')) {v' : V} {H' : Hp} {ρ' : List Addr} (x : Ext K ρ H ρ' H') (S : Sim C P w K ρ' h' H') (rv : VR K ρ' H' v v') : Q v' H' := by
  obtain ⟨v1, h1, e1, k⟩ := k
  rw [e] at e1
  cases e1
  exact k ρ' H' v' x S rv
theorem Sim.lst {i : Nat} {xs : List SV} {a : Addr} (S : Sim C P w K ρ h H) (g : h.get i = some (.lst xs)) (ra : ρ[i]? = some a) : ∃ vs, H a = some (.lst vs) ∧ VRs K ρ H xs vs := by
  obtain ⟨b, rb, o⟩ := S.obj i _ g
  rw [ra] at rb
  cases rb
  cases o with
  | lst h r => exact ⟨_, h, r⟩
end

/-! ### displays -/
section
variable {X : Cx} {es : List Expr} {t : TA} {pos : Pos}
def tTupF (t : TA) : TE := fun σ H Q => t σ H fun xs H1 => xs.length ≤ sizeLine ∧ ∀ p o, o.dict = none → H1 p = none → Q (.ref p) (upd H1 p (.frz o (.tup xs)))
/-- a tuple just laid -/
theorem laidT {pins : List (Addr × Obj)} {σ : L2.St} {H : Hp} {s : Shared} {xs : List V} {us : List Value} (I : Inv X pins σ H s) (r : Vals xs us) (z : xs.length ≤ sizeLine) :
    Inv X pins σ (upd H s.heap.objs.size (.frz { cls := .type "tuple", data := .seq us.toArray } (.tup xs))) { s with heap := s.heap.push { cls := .type "tuple", data := .seq us.toArray } } := by
  refine I.laid (t' := s.toks) (fun b u e => Heap.get?_push_of_some _ e) (Nat.le_refl _) ?_
  exact ⟨Heap.get?_push_size _ rfl, z, us, r, ⟨_, Heap.get?_push_size _ rfl, rfl, _, rfl⟩⟩
theorem pe_tupF {x1} (h : PA X es t) : PE X (.Tuple es x1 pos) (tTupF t) := by
  refine ⟨fun pins s σ H Q I hq => ?_⟩
  refine wpAny_Tuple_spliced (thn (h.run pos pins s σ H _ I hq) fun us s1 ⟨xs, H1, I1, r, z, q⟩ => ⟨by rw [← r.length]; exact z, ?_⟩)
  exact ⟨.ref s1.heap.objs.size, _, laidT I1 r z, rfl, q _ _ rfl (I1.hok.fresh (Nat.le_refl _))⟩
end
section
variable {C : Bd} {P : Program} {w : World} {K : PySem.W.Frag} {σ : L2.St} {H : Hp}
theorem tTupF_ev {fs : AF} {Q : VK} (q : tEv C P w K (evArgs mkTup fs) σ H Q) : tTupF (tAv C P w K fs) σ H Q := by
  obtain ⟨ρ, l, h, S, L, v, h', e, k⟩ := q
  unfold evArgs at e
  split at e
  · rename_i xs h1 ea
    refine ⟨ρ, l, h, S, L, xs, h1, ea, fun ρ1 H1 vs x1 S1 r => ?_⟩
    exact mkTup_ok S1 r ⟨v, h', e, fun ρ2 H2 v2 x2 S2 r2 => k ρ2 H2 v2 (x1.trans x2) S2 r2⟩
  · cases e
theorem tLst_ev {fs : AF} {Q : VK} (q : tEv C P w K (evArgs mkLst fs) σ H Q) : tLst (tAv C P w K fs) σ H Q := by
  obtain ⟨ρ, l, h, S, L, v, h', e, k⟩ := q
  unfold evArgs at e
  split at e
  · rename_i xs h1 ea
    refine ⟨ρ, l, h, S, L, xs, h1, ea, fun ρ1 H1 vs x1 S1 r => ?_⟩
    exact mkLst_ok S1 r ⟨v, h', e, fun ρ2 H2 v2 x2 S2 r2 => k ρ2 H2 v2 (x1.trans x2) S2 r2⟩
  · cases e
end

/-! ### + -/
def addV : SV → SV → VH → EvR
  | .str x, .str y, h => match lim (x.length + y.length) with
    | true => some (.str (x ++ y), h)
    | false => none
  | .tup xs, .tup ys, h => match xs with
    | [] => some (.tup ys, h)
    | x :: xs => match ys with
      | [] => some (.tup (x :: xs), h)
      | y :: ys => mkTup ((x :: xs) ++ (y :: ys)) h
  | .loc i, .loc j, h => match h.get i with
    | some (.lst xs) => (match h.get j with
      | some (.lst ys) => mkLst (xs ++ ys) h
      | _ => none)
    | _ => none
  | .int i, .int j, h => some (.int (i + j), h)
  | _, _, _ => none
def rCatF (K : PySem.W.Frag) : R2 := fun x y H Q => ∃ a b xs ys, x = .ref a ∧ y = .ref b ∧ SqT K H a xs ∧ SqT K H b ys ∧
  ((xs = [] ∧ Q (.ref b) H) ∨ (ys = [] ∧ xs ≠ [] ∧ Q (.ref a) H) ∨ (xs ≠ [] ∧ ys ≠ [] ∧ (xs ++ ys).length ≤ sizeLine ∧ ∀ p o, o.dict = none → H p = none → Q (.ref p) (upd H p (.frz o (.tup (xs ++ ys))))))
section
variable {X : Cx}
theorem op_catF : OpR X (binaryOp .Add) (rCatF X.K) := by
  intro pins s σ H x y v u Q I rx ry h
  obtain ⟨a, b, xs, ys, rfl, rfl, ha, hb, q⟩ := h
  cases rx
  cases ry
  obtain ⟨its, r1, p1, z1⟩ := I.tuple ha
  obtain ⟨its2, r2, p2, z2⟩ := I.tuple hb
  rcases q with ⟨hx, q⟩ | ⟨hy, hx, q⟩ | ⟨hx, hy, hz, q⟩
  · subst hx
    cases r1
    exact cat_tup0 p1 p2 ⟨.ref b, H, I, rfl, q⟩
  · subst hy
    cases r2
    exact HT.cat_tup p1 p2 (fun z => hx (r1.nil_iff.mp z)) (fun _ => ⟨.ref a, H, I, rfl, q⟩) (fun z => absurd rfl z) (by rw [← r1.length]; simpa using z1)
  · refine HT.cat_tup p1 p2 (fun z => hx (r1.nil_iff.mp z)) (fun z => absurd (r2.nil_iff.mp z) hy) (fun z => ?_) (by rw [← r1.length, ← r2.length, ← List.length_append]; exact hz)
    exact ⟨.ref s.heap.objs.size, _, laidT I (r1.append r2) hz, rfl, q _ _ rfl (I.hok.fresh (Nat.le_refl _))⟩
def rAddA (K : PySem.W.Frag) : R2 := fun x y H Q => ((∃ i j, x = .str i ∧ y = .str j ∧ i.length + j.length ≤ sizeLine ∧ Q (.str (i ++ j)) H) ∨ rI0 (fun i j => .int (i + j)) x y H Q) ∨ rCat x y H Q ∨ rCatF K x y H Q
theorem op_addA : OpR X (binaryOp .Add) (rAddA X.K) := OpR.or (OpR.or op_add_str op_add) (OpR.or op_cat op_catF)
end
section
variable {C : Bd} {P : Program} {w : World} {K : PySem.W.Frag}
theorem addV_ok : Pr2 C P w K (rAddA K) addV := by
  intro ρ h H a b a' b' Q S ra rb k
  obtain ⟨v, h', e, _⟩ := id k
  unfold addV at e
  split at e
  · split at e
    · rename_i hl
      cases e
      cases ra
      cases rb
      exact .inl (.inl ⟨_, _, rfl, rfl, lim_le hl, k.of (by unfold addV; simp only []; rw [hl]) .refl S (.str _)⟩)
    · cases e
  · rename_i xs ys
    cases ra with
    | @tup pa _ us hta rus =>
      cases rb with
      | @tup pb _ ws htb rws =>
        refine .inr (.inr ⟨pa, pb, us, ws, rfl, rfl, hta.sq, htb.sq, ?_⟩)
        cases rus with
        | nil => exact .inl ⟨rfl, k.of rfl .refl S (.tup htb rws)⟩
        | cons ha hr =>
          cases rws with
          | nil => exact .inr (.inl ⟨rfl, by simp, k.of rfl .refl S (.tup hta (.cons ha hr))⟩)
          | cons hb hs =>
            obtain ⟨z, q⟩ := mkTup_ok S ((VRs.cons ha hr).append (.cons hb hs)) k
            exact .inr (.inr ⟨by simp, by simp, z, q⟩)
  · rename_i i j
    cases ra with
    | @loc _ pa ha =>
      cases rb with
      | @loc _ pb hb =>
        split at e
        · rename_i xs gi
          split at e
          · rename_i ys gj
            obtain ⟨us, h1, r1⟩ := S.lst gi ha
            obtain ⟨ws, h2, r2⟩ := S.lst gj hb
            obtain ⟨z, q⟩ := mkLst_ok (Q := Q) S (r1.append r2) (by
              have ek : addV (.loc i) (.loc j) h = mkLst (xs ++ ys) h := by unfold addV; simp only []; rw [gi]; simp only []; rw [gj]
              rw [ek] at k
              exact k)
            exact .inr (.inl ⟨pa, pb, us, ws, rfl, rfl, h1, h2, by rw [← List.length_append]; exact z, q⟩)
          · cases e
        · cases e
  · cases ra
    cases rb
    cases e
    exact .inl (.inr ⟨_, _, rfl, rfl, k.of rfl .refl S (.int _)⟩)
  · cases e
end

/-! ### data -/
mutual
def toD : SV → Option PyData
  | .non => some .none
  | .bl b => some (.bool b)
  | .int i => some (.int i)
  | .str x => some (.str x)
  | .tup xs => match toDs xs with
    | some ds => some (.tuple ds)
    | none => none
  | .ty _ => none
  | .loc _ => none
def toDs : List SV → Option (List PyData)
  | [] => some []
  | x :: xs => match toD x with
    | some d => (match toDs xs with
      | some ds => some (d :: ds)
      | none => none)
    | none => none
end
/-- the same, a list of the heap ahead -/
def toDh (h : VH) : SV → Option PyData
  | .loc i => match h.get i with
    | some (.lst xs) => (match toDs xs with
      | some ds => some (.list ds)
      | none => none)
    | _ => none
  | x => toD x
section
variable {C : Bd} {P : Program} {w : World} {K : PySem.W.Frag} {ρ : List Addr} {h : VH} {H : Hp}
mutual
theorem toD_ok : ∀ (x : SV) (v : V) (d : PyData), toD x = some d → VR K ρ H x v → Dp K H v d
  | .non, _, _, e, r => by cases e; cases r; exact .non
  | .bl _, _, _, e, r => by cases e; cases r; exact .bl _
  | .int _, _, _, e, r => by cases e; cases r; exact .int _
  | .str _, _, _, e, r => by cases e; cases r; exact .str _
  | .tup xs, _, _, e, r => by
    unfold toD at e
    split at e
    · rename_i ds ed
      cases e
      cases r with
      | tup ht rs => exact .tup ht.sq (toDs_ok xs _ ds ed rs)
    · cases e
  | .ty _, _, _, e, _ => by cases e
  | .loc _, _, _, e, _ => by cases e
theorem toDs_ok : ∀ (xs : List SV) (vs : List V) (ds : List PyData), toDs xs = some ds → VRs K ρ H xs vs → DpAll K H vs ds
  | [], _, _, e, r => by cases e; cases r; exact .nil
  | x :: xs, _, _, e, r => by
    unfold toDs at e
    split at e
    · rename_i d ed
      split at e
      · rename_i ds eds
        cases e
        cases r with
        | cons ra rs => exact .cons (toD_ok x _ d ed ra) (toDs_ok xs _ ds eds rs)
      · cases e
    · cases e
end
theorem toDh_ok (S : Sim C P w K ρ h H) : ∀ {x : SV} {v : V} {d : PyData}, toDh h x = some d → VR K ρ H x v → Dp K H v d
  | .loc i, _, _, e, r => by
    cases r with
    | loc ha =>
      unfold toDh at e
      split at e
      · rename_i i' heq
        cases heq
        split at e
        · rename_i xs g
          split at e
          · rename_i ds ed
            cases e
            obtain ⟨vs, hl, rs⟩ := S.lst g ha
            exact .lst (SqL.of hl) (toDs_ok xs vs ds ed rs)
          · cases e
        · cases e
      · rename_i hne
        exact absurd rfl (hne i)
  | .non, _, _, e, r => toD_ok _ _ _ e r
  | .bl _, _, _, e, r => toD_ok _ _ _ e r
  | .int _, _, _, e, r => toD_ok _ _ _ e r
  | .str _, _, _, e, r => toD_ok _ _ _ e r
  | .tup _, _, _, e, r => toD_ok _ _ _ e r
  | .ty _, _, _, e, r => toD_ok _ _ _ e r
end
def eqV' (a b : SV) (h : VH) : Option Bool := match toDh h a with
  | some d => (match toDh h b with
    | some e => (match SeqAt.shaped d && SeqAt.shaped e with
      | true => some (PyData.eqv d e)
      | false => none)
    | none => none)
  | none => none
def eqP (a b : SV) (h : VH) : EvR := match eqV' a b h with
  | some k => some (.bl k, h)
  | none => none
def neP (a b : SV) (h : VH) : EvR := match eqV' a b h with
  | some k => some (.bl (!k), h)
  | none => none
section
variable {C : Bd} {P : Program} {w : World} {K : PySem.W.Frag}
theorem eqV_ok {ρ : List Addr} {h : VH} {H : Hp} {a b : SV} {a' b' : V} {k : Bool} (S : Sim C P w K ρ h H) (ra : VR K ρ H a a') (rb : VR K ρ H b b') (e : eqV' a b h = some k) :
    ∃ d e', Dp K H a' d ∧ Dp K H b' e' ∧ SeqAt.shaped d = true ∧ SeqAt.shaped e' = true ∧ PyData.eqv d e' = k := by
  unfold eqV' at e
  split at e
  · rename_i d ed
    split at e
    · rename_i e' ee
      split at e
      · rename_i hs
        cases e
        have hs := Bool.and_eq_true_iff.mp hs
        exact ⟨d, e', toDh_ok S ed ra, toDh_ok S ee rb, hs.1, hs.2, rfl⟩
      · cases e
    · cases e
  · cases e
theorem eqP_ok : Pr2 C P w K (rEqD K) eqP := by
  intro ρ h H a b a' b' Q S ra rb k
  obtain ⟨v, h', e, _⟩ := id k
  unfold eqP at e
  split at e
  · rename_i c ec
    cases e
    obtain ⟨d, e', h1, h2, s1, s2, e3⟩ := eqV_ok S ra rb ec
    refine ⟨d, e', h1, h2, s1, s2, ?_⟩
    rw [e3]
    exact k.of (by unfold eqP; rw [ec]) .refl S (.bl c)
  · cases e
theorem neP_ok : Pr2 C P w K (rNeD K) neP := by
  intro ρ h H a b a' b' Q S ra rb k
  obtain ⟨v, h', e, _⟩ := id k
  unfold neP at e
  split at e
  · rename_i c ec
    cases e
    obtain ⟨d, e', h1, h2, s1, s2, e3⟩ := eqV_ok S ra rb ec
    refine ⟨d, e', h1, h2, s1, s2, ?_⟩
    rw [e3]
    exact k.of (by unfold neP; rw [ec]) .refl S (.bl (!c))
  · cases e
end
end Ev

namespace Ev
open PySem L2 PySem.Spec PyProof.Rows

/-! ## readers -/
/-- a list's or a tuple's items -/
def seqOf (h : VH) : SV → Option (List SV)
  | .tup xs => some xs
  | .loc i => match h.get i with
    | some (.lst xs) => some xs
    | _ => none
  | _ => none
def lstOf (h : VH) : SV → Option (Nat × List SV)
  | .loc i => match h.get i with
    | some (.lst xs) => some (i, xs)
    | _ => none
  | _ => none
def tupOf : SV → Option (List SV)
  | .tup xs => some xs
  | _ => none
def intsOf : List SV → Option (List Int)
  | [] => some []
  | .int i :: r => match intsOf r with
    | some is => some (i :: is)
    | none => none
  | _ :: _ => none
def strsOf : List SV → Option (List Str)
  | [] => some []
  | .str i :: r => match strsOf r with
    | some is => some (i :: is)
    | none => none
  | _ :: _ => none
def bolsOf : List SV → Option (List Bool)
  | [] => some []
  | .bl i :: r => match bolsOf r with
    | some is => some (i :: is)
    | none => none
  | _ :: _ => none
section
variable {C : Bd} {P : Program} {w : World} {K : PySem.W.Frag} {ρ : List Addr} {h : VH} {H : Hp}
theorem seqOf_ok (S : Sim C P w K ρ h H) {x : SV} {v : V} {xs : List SV} (r : VR K ρ H x v) (e : seqOf h x = some xs) : ∃ p vs, v = .ref p ∧ (SqL K H p vs ∨ SqT K H p vs) ∧ VRs K ρ H xs vs := by
  cases x with
  | tup ys =>
    cases e
    cases r with
    | tup ht rs => exact ⟨_, _, rfl, .inr ht.sq, rs⟩
  | loc i =>
    unfold seqOf at e
    simp only [] at e
    split at e
    · rename_i ys g
      cases e
      cases r with
      | loc ha =>
        obtain ⟨vs, hl, rs⟩ := S.lst g ha
        exact ⟨_, vs, rfl, .inl (SqL.of hl), rs⟩
    · cases e
  | _ => cases e
theorem lstOf_ok (S : Sim C P w K ρ h H) {x : SV} {v : V} {i : Nat} {xs : List SV} (r : VR K ρ H x v) (e : lstOf h x = some (i, xs)) : ∃ p vs, v = .ref p ∧ x = .loc i ∧ h.get i = some (.lst xs) ∧ ρ[i]? = some p ∧ H p = some (.lst vs) ∧ VRs K ρ H xs vs := by
  cases x with
  | loc j =>
    unfold lstOf at e
    simp only [] at e
    split at e
    · rename_i ys g
      cases e
      cases r with
      | loc ha =>
        obtain ⟨vs, hl, rs⟩ := S.lst g ha
        exact ⟨_, vs, rfl, rfl, g, ha, hl, rs⟩
    · cases e
  | _ => cases e
theorem tupOf_ok {x : SV} {v : V} {xs : List SV} (r : VR K ρ H x v) (e : tupOf x = some xs) : ∃ p vs, v = .ref p ∧ x = .tup xs ∧ TF K H p vs ∧ VRs K ρ H xs vs := by
  cases x with
  | tup ys =>
    cases e
    cases r with
    | tup ht rs => exact ⟨_, _, rfl, rfl, ht, rs⟩
  | _ => cases e
theorem intsOf_ok : ∀ {xs : List SV} {vs : List V} {ns : List Int}, VRs K ρ H xs vs → intsOf xs = some ns → vs = ns.map V.int
  | [], _, _, .nil, e => by cases e; rfl
  | x :: xs, _, _, .cons ra rs, e => by
    cases x with
    | int i =>
      unfold intsOf at e
      split at e
      · rename_i is ei
        cases e
        cases ra
        rw [intsOf_ok rs ei]; rfl
      · cases e
    | _ => cases e
theorem strsOf_ok : ∀ {xs : List SV} {vs : List V} {ns : List Str}, VRs K ρ H xs vs → strsOf xs = some ns → vs = ns.map V.str
  | [], _, _, .nil, e => by cases e; rfl
  | x :: xs, _, _, .cons ra rs, e => by
    cases x with
    | str i =>
      unfold strsOf at e
      split at e
      · rename_i is ei
        cases e
        cases ra
        rw [strsOf_ok rs ei]; rfl
      · cases e
    | _ => cases e
theorem bolsOf_ok : ∀ {xs : List SV} {vs : List V} {ns : List Bool}, VRs K ρ H xs vs → bolsOf xs = some ns → vs = ns.map V.bl
  | [], _, _, .nil, e => by cases e; rfl
  | x :: xs, _, _, .cons ra rs, e => by
    cases x with
    | bl i =>
      unfold bolsOf at e
      split at e
      · rename_i is ei
        cases e
        cases ra
        rw [bolsOf_ok rs ei]; rfl
      · cases e
    | _ => cases e
theorem VRs.ints : ∀ (ns : List Int), VRs K ρ H (ns.map SV.int) (ns.map V.int)
  | [] => .nil
  | _ :: ns => .cons (.int _) (VRs.ints ns)
theorem VRs.strs : ∀ (ns : List Str), VRs K ρ H (ns.map SV.str) (ns.map V.str)
  | [] => .nil
  | _ :: ns => .cons (.str _) (VRs.strs ns)
theorem SqT_or {p : Addr} {vs : List V} (h : SqL K H p vs ∨ SqT K H p vs) : SqL K H p vs ∨ SqT K H p vs := h
end

/-! ### comparisons -/
def cmpI (f : Int → Int → Bool) : SV → SV → VH → EvR
  | .int i, .int j, h => some (.bl (f i j), h)
  | _, _, _ => none
def isNP : SV → SV → VH → EvR
  | x, .non, h => match x with
    | .non => some (.bl true, h)
    | _ => some (.bl false, h)
  | _, _, _ => none
def notNP : SV → SV → VH → EvR
  | x, .non, h => match x with
    | .non => some (.bl false, h)
    | _ => some (.bl true, h)
  | _, _, _ => none
section
variable {C : Bd} {P : Program} {w : World} {K : PySem.W.Frag}
theorem cmpI_ok {f : Int → Int → Bool} : Pr2 C P w K (rI0 fun i j => .bl (f i j)) (cmpI f) := by
  intro ρ h H a b a' b' Q S ra rb k
  obtain ⟨v, h', e, _⟩ := id k
  unfold cmpI at e
  split at e
  · cases ra
    cases rb
    cases e
    exact ⟨_, _, rfl, rfl, k.of rfl .refl S (.bl _)⟩
  · cases e
theorem isNP_ok : Pr2 C P w K (fun x y H Q => y = .non ∧ Q (.bl (decide (x = .non))) H) isNP := by
  intro ρ h H a b a' b' Q S ra rb k
  obtain ⟨v, h', e, _⟩ := id k
  unfold isNP at e
  split at e
  · cases rb
    refine ⟨rfl, ?_⟩
    split at e
    · cases e
      cases ra
      exact k.of rfl .refl S (.bl true)
    · rename_i hne
      cases e
      have e2 : decide (a' = V.non) = false := decide_eq_false fun z => by
        subst z
        cases ra
        exact hne rfl
      rw [e2]
      refine k.of ?_ .refl S (.bl false)
      cases a <;> first | rfl | exact absurd rfl hne
  · cases e
theorem notNP_ok : Pr2 C P w K (fun x y H Q => y = .non ∧ Q (.bl (!decide (x = .non))) H) notNP := by
  intro ρ h H a b a' b' Q S ra rb k
  obtain ⟨v, h', e, _⟩ := id k
  unfold notNP at e
  split at e
  · cases rb
    refine ⟨rfl, ?_⟩
    split at e
    · cases e
      cases ra
      exact k.of rfl .refl S (.bl false)
    · rename_i hne
      cases e
      have e2 : decide (a' = V.non) = false := decide_eq_false fun z => by
        subst z
        cases ra
        exact hne rfl
      rw [e2]
      refine k.of ?_ .refl S (.bl true)
      cases a <;> first | rfl | exact absurd rfl hne
  · cases e
end

/-! ### subscripts -/
def ixNat (n : Nat) (i : Int) : Option Nat := ixN n i
def ixP (a b : SV) (h : VH) : EvR := match b with
  | .int i => (match seqOf h a with
    | some xs => (match atI xs i with
      | some x => some (x, h)
      | none => none)
    | none => none)
  | _ => none
section
variable {C : Bd} {P : Program} {w : World} {K : PySem.W.Frag}
theorem VRs.atI {ρ : List Addr} {H : Hp} {xs : List SV} {vs : List V} {i : Int} {x : SV} (r : VRs K ρ H xs vs) (e : atI xs i = some x) : ∃ v, atI vs i = some v ∧ VR K ρ H x v := by
  unfold L2.atI at e
  cases ej : ixN xs.length i with
  | none => rw [ej] at e; cases e
  | some j =>
    rw [ej] at e
    obtain ⟨v, hv, rv⟩ := r.get (i := j) e
    refine ⟨v, ?_, rv⟩
    unfold L2.atI
    rw [← r.length, ej]
    exact hv
theorem ixP_ok : Pr2 C P w K (fun x y H Q => rIxL K x y H Q ∨ rIxT K x y H Q) ixP := by
  intro ρ h H a b a' b' Q S ra rb k
  obtain ⟨v, h', e, _⟩ := id k
  unfold ixP at e
  split at e
  · rename_i i
    split at e
    · rename_i xs es
      split at e
      · rename_i x ex
        cases e
        cases rb
        obtain ⟨p, vs, rfl, hs, rs⟩ := seqOf_ok S ra es
        obtain ⟨v, ev, rv⟩ := rs.atI ex
        have q : Q v H := k.of (by unfold ixP; simp only []; rw [es]; simp only []; rw [ex]) .refl S rv
        rcases hs with hs | hs
        · exact .inl ⟨p, vs, i, v, rfl, rfl, hs, ev, q⟩
        · exact .inr ⟨p, vs, i, v, rfl, rfl, hs, ev, q⟩
      · cases e
    · cases e
  · cases e
end

/-! ### len, list(..), tuple(..), any, all, sum -/
def lenP : List SV → VH → EvR
  | [a], h => match seqOf h a with
    | some xs => some (.int xs.length, h)
    | none => none
  | _, _ => none
def listP : List SV → VH → EvR
  | [a], h => match seqOf h a with
    | some xs => mkLst xs h
    | none => none
  | _, _ => none
def tupleP : List SV → VH → EvR
  | [a], h => match a with
    | .tup xs => some (.tup xs, h)
    | _ => match lstOf h a with
      | some (_, xs) => mkTup xs h
      | none => none
  | _, _ => none
def anyP : List SV → VH → EvR
  | [a], h => match lstOf h a with
    | some (_, xs) => (match bolsOf xs with
      | some bs => some (.bl (bs.any id), h)
      | none => none)
    | none => none
  | _, _ => none
def allP : List SV → VH → EvR
  | [a], h => match lstOf h a with
    | some (_, xs) => (match bolsOf xs with
      | some bs => some (.bl (bs.all id), h)
      | none => none)
    | none => none
  | _, _ => none
def sumP : List SV → VH → EvR
  | [a], h => match lstOf h a with
    | some (_, xs) => (match intsOf xs with
      | some bs => some (.int bs.sum, h)
      | none => none)
    | none => none
  | _, _ => none
def rLenS (K : PySem.W.Frag) : List V → Hp → VK → Prop := fun xs H Q => ∃ p ys, xs = [.ref p] ∧ (SqL K H p ys ∨ SqT K H p ys) ∧ Q (.int ys.length) H
def rListS (K : PySem.W.Frag) : List V → Hp → VK → Prop := fun xs H Q => ∃ p ys, xs = [.ref p] ∧ (SqL K H p ys ∨ SqT K H p ys) ∧ ∀ l, H l = none → Q (.ref l) (upd H l (.lst ys))
def rTupF (K : PySem.W.Frag) : List V → Hp → VK → Prop := fun xs H Q => ∃ p ys, xs = [.ref p] ∧ ((SqL K H p ys ∧ ∀ l o, o.dict = none → H l = none → Q (.ref l) (upd H l (.frz o (.tup ys)))) ∨ (SqT K H p ys ∧ Q (.ref p) H))
theorem call_tupF {X : Cx} : CallR X (.type "tuple") (rTupF X.K) := by
  intro pins s σ H xs us Q I r h
  obtain ⟨p, ys, rfl, h⟩ := h
  obtain ⟨u, rfl, rx⟩ := vals1 r
  cases rx
  rcases h with ⟨hq, q⟩ | ⟨hq, q⟩
  · obtain ⟨its, r', pl, hz⟩ := I.list hq
    have hlen := r'.length
    have hn := line63
    refine call_tuple_list pl.isList (fun h' kp => ?_) (by simp only [List.size_toArray] <;> omega)
    have I1 : Inv X pins σ H { s with heap := h' } := I.kept (t' := s.toks) kp
    exact ⟨.ref h'.objs.size, _, laidT I1 r' hz, rfl, q _ _ rfl (I1.hok.fresh (Nat.le_refl _))⟩
  · obtain ⟨its, r', pl, hz⟩ := I.tuple hq
    exact call_tuple_same pl ⟨.ref p, H, I, rfl, q⟩
section
variable {C : Bd} {P : Program} {w : World} {K : PySem.W.Frag}
theorem lenP_ok : PrL C P w K (rLenS K) lenP := by
  intro ρ h H xs vs Q S rs k
  obtain ⟨v, h', e, _⟩ := id k
  unfold lenP at e
  split at e
  · split at e
    · rename_i ys es
      cases e
      obtain _ | ⟨ra, rt⟩ := rs
      cases rt
      obtain ⟨p, us, rfl, hs, ru⟩ := seqOf_ok S ra es
      refine ⟨p, us, rfl, hs, ?_⟩
      rw [← ru.length]
      exact k.of (by unfold lenP; simp only []; rw [es]) .refl S (.int _)
    · cases e
  · cases e
theorem listP_ok : PrL C P w K (rListS K) listP := by
  intro ρ h H xs vs Q S rs k
  obtain ⟨v, h', e, _⟩ := id k
  unfold listP at e
  split at e
  · split at e
    · rename_i ys es
      obtain _ | ⟨ra, rt⟩ := rs
      cases rt
      obtain ⟨p, us, rfl, hs, ru⟩ := seqOf_ok S ra es
      exact ⟨p, us, rfl, hs, (mkLst_ok (Q := Q) S ru (by
        unfold listP at k; simp only [] at k; rw [es] at k; exact k)).2⟩
    · cases e
  · cases e
theorem tupleP_ok : PrL C P w K (rTupF K) tupleP := by
  intro ρ h H xs vs Q S rs k
  obtain ⟨v, h', e, _⟩ := id k
  unfold tupleP at e
  split at e
  · rename_i a
    obtain _ | ⟨ra, rt⟩ := rs
    cases rt
    split at e
    · cases e
      cases ra with
      | tup ht rr => exact ⟨_, _, rfl, .inr ⟨ht.sq, k.of rfl .refl S (.tup ht rr)⟩⟩
    · rename_i hnt
      split at e
      · rename_i i ys es
        obtain ⟨p, us, rfl, rfl, g, hρ, hl, ru⟩ := lstOf_ok S ra es
        refine ⟨p, us, rfl, .inl ⟨SqL.of hl, (mkTup_ok (Q := Q) S ru ?_).2⟩⟩
        unfold tupleP at k; simp only [] at k; rw [es] at k; exact k
      · cases e
  · cases e
theorem anyP_ok : PrL C P w K (rAny K) anyP := by
  intro ρ h H xs vs Q S rs k
  obtain ⟨v, h', e, _⟩ := id k
  unfold anyP at e
  split at e
  · split at e
    · rename_i i ys es
      split at e
      · rename_i bs eb
        cases e
        obtain _ | ⟨ra, rt⟩ := rs
        cases rt
        obtain ⟨p, us, rfl, rfl, g, hρ, hl, ru⟩ := lstOf_ok S ra es
        have e2 := bolsOf_ok ru eb
        subst e2
        exact ⟨p, bs, rfl, SqL.of hl, k.of (by unfold anyP; simp only []; rw [es]; simp only []; rw [eb]) .refl S (.bl _)⟩
      · cases e
    · cases e
  · cases e
theorem allP_ok : PrL C P w K (rAll K) allP := by
  intro ρ h H xs vs Q S rs k
  obtain ⟨v, h', e, _⟩ := id k
  unfold allP at e
  split at e
  · split at e
    · rename_i i ys es
      split at e
      · rename_i bs eb
        cases e
        obtain _ | ⟨ra, rt⟩ := rs
        cases rt
        obtain ⟨p, us, rfl, rfl, g, hρ, hl, ru⟩ := lstOf_ok S ra es
        have e2 := bolsOf_ok ru eb
        subst e2
        exact ⟨p, bs, rfl, SqL.of hl, k.of (by unfold allP; simp only []; rw [es]; simp only []; rw [eb]) .refl S (.bl _)⟩
      · cases e
    · cases e
  · cases e
theorem sumP_ok : PrL C P w K (rSum K) sumP := by
  intro ρ h H xs vs Q S rs k
  obtain ⟨v, h', e, _⟩ := id k
  unfold sumP at e
  split at e
  · split at e
    · rename_i i ys es
      split at e
      · rename_i bs eb
        cases e
        obtain _ | ⟨ra, rt⟩ := rs
        cases rt
        obtain ⟨p, us, rfl, rfl, g, hρ, hl, ru⟩ := lstOf_ok S ra es
        have e2 := intsOf_ok ru eb
        subst e2
        exact ⟨p, bs, rfl, SqL.of hl, k.of (by unfold sumP; simp only []; rw [es]; simp only []; rw [eb]) .refl S (.int _)⟩
      · cases e
    · cases e
  · cases e
end
end Ev

namespace Ev
open PySem L2 PySem.Spec PyProof.Rows

/-! ## dicts, by any kind of key -/
section
variable {κ β γ : Type}
def atG (t : κ → κ → Bool) (xs : List (κ × β)) (k : κ) : Option β := match xs.find? fun kv => t kv.1 k with
  | some p => some p.2
  | none => none
def putAtG (t : κ → κ → Bool) (k : κ) (f : β → β) (kv : κ × β) : κ × β := match t kv.1 k with
  | true => (kv.1, f kv.2)
  | false => kv
def putG (t : κ → κ → Bool) (xs : List (κ × β)) (k : κ) (new : β) (f : β → β) : List (κ × β) := match xs.any fun kv => t kv.1 k with
  | true => xs.map (putAtG t k f)
  | false => xs ++ [(k, new)]
def woG (t : κ → κ → Bool) (xs : List (κ × β)) (k : κ) : List (κ × β) := xs.filter fun kv => !(t kv.1 k)
def PRel (R : β → γ → Prop) : List (κ × β) → List (κ × γ) → Prop := Paired fun p q => p.1 = q.1 ∧ R p.2 q.2
variable {t : κ → κ → Bool} {R : β → γ → Prop}
theorem PRel.find {k : κ} : ∀ {xs : List (κ × β)} {ys : List (κ × γ)}, PRel R xs ys → (atG t xs k = none ∧ atG t ys k = none) ∨ ∃ b c, atG t xs k = some b ∧ atG t ys k = some c ∧ R b c
  | _, _, .nil => .inl ⟨rfl, rfl⟩
  | p :: xs, q :: ys, .cons ⟨e, r⟩ tl => by
    unfold atG
    rw [List.find?_cons, List.find?_cons, e]
    cases h : t q.1 k with
    | true => exact .inr ⟨p.2, q.2, rfl, rfl, r⟩
    | false => exact PRel.find tl
theorem PRel.any {k : κ} : ∀ {xs : List (κ × β)} {ys : List (κ × γ)}, PRel R xs ys → (xs.any fun kv => t kv.1 k) = (ys.any fun kv => t kv.1 k)
  | _, _, .nil => rfl
  | p :: xs, q :: ys, .cons ⟨e, r⟩ tl => by rw [List.any_cons, List.any_cons, e, PRel.any tl]
theorem PRel.map {k : κ} {f : β → β} {g : γ → γ} (hf : ∀ b c, R b c → R (f b) (g c)) : ∀ {xs : List (κ × β)} {ys : List (κ × γ)}, PRel R xs ys → PRel R (xs.map (putAtG t k f)) (ys.map (putAtG t k g))
  | _, _, .nil => .nil
  | p :: xs, q :: ys, .cons ⟨e, r⟩ tl => by
    refine .cons ?_ (PRel.map hf tl)
    unfold putAtG
    rw [e]
    cases h : t q.1 k with
    | true => exact ⟨rfl, hf _ _ r⟩
    | false => exact ⟨e, r⟩
theorem PRel.snoc {p : κ × β} {q : κ × γ} (h : p.1 = q.1 ∧ R p.2 q.2) : ∀ {xs : List (κ × β)} {ys : List (κ × γ)}, PRel R xs ys → PRel R (xs ++ [p]) (ys ++ [q])
  | _, _, .nil => .cons h .nil
  | _, _, .cons r tl => .cons r (PRel.snoc h tl)
theorem PRel.put {k : κ} {b : β} {c : γ} {f : β → β} {g : γ → γ} {xs : List (κ × β)} {ys : List (κ × γ)} (h : PRel R xs ys) (hb : R b c) (hf : ∀ b c, R b c → R (f b) (g c)) : PRel R (putG t xs k b f) (putG t ys k c g) := by
  unfold putG
  rw [PRel.any (t := t) (k := k) h]
  cases ys.any fun kv => t kv.1 k with
  | true => exact PRel.map hf h
  | false => exact PRel.snoc (p := (k, b)) (q := (k, c)) ⟨rfl, hb⟩ h
theorem PRel.wo {k : κ} : ∀ {xs : List (κ × β)} {ys : List (κ × γ)}, PRel R xs ys → PRel R (woG t xs k) (woG t ys k)
  | _, _, .nil => .nil
  | p :: xs, q :: ys, .cons ⟨e, r⟩ tl => by
    unfold woG
    rw [List.filter_cons, List.filter_cons, e]
    cases h : t q.1 k with
    | true => exact PRel.wo tl
    | false => exact .cons ⟨e, r⟩ (PRel.wo tl)
theorem PRel.length : ∀ {xs : List (κ × β)} {ys : List (κ × γ)}, PRel R xs ys → xs.length = ys.length
  | _, _, .nil => rfl
  | _, _, .cons _ tl => by simp [PRel.length tl]
theorem PRel.mono {R' : β → γ → Prop} (h : ∀ b c, R b c → R' b c) : ∀ {xs : List (κ × β)} {ys : List (κ × γ)}, PRel R xs ys → PRel R' xs ys
  | _, _, .nil => .nil
  | _, _, .cons r tl => .cons ⟨r.1, h _ _ r.2⟩ (PRel.mono h tl)
theorem PRel.mem {q : κ × γ} : ∀ {xs : List (κ × β)} {ys : List (κ × γ)}, PRel R xs ys → q ∈ ys → ∃ p ∈ xs, p.1 = q.1 ∧ R p.2 q.2
  | _, _, .nil, h => by cases h
  | p :: xs, _ :: ys, .cons r tl, h => by
    rcases List.mem_cons.mp h with rfl | h
    · exact ⟨p, List.mem_cons_self, r⟩
    · obtain ⟨p', m, h'⟩ := PRel.mem tl h
      exact ⟨p', List.mem_cons_of_mem _ m, h'⟩
end
section
variable {C : Bd} {P : Program} {w : World} {K : PySem.W.Frag} {ρ : List Addr} {h : VH} {H : Hp}
theorem PRel.of {κ γ : Type} {f : γ → V} : ∀ {kvs : List (κ × SV)} {vs : List (κ × γ)}, kvs.map (·.1) = vs.map (·.1) → VRs K ρ H (kvs.map (·.2)) (vs.map fun x => f x.2) → PRel (fun x p => VR K ρ H x (f p)) kvs vs
  | [], [], _, _ => .nil
  | [], _ :: _, e, _ => nomatch e
  | _ :: _, [], e, _ => nomatch e
  | p :: kvs, q :: vs, e, .cons r rs => .cons ⟨(List.cons.inj e).1, r⟩ (PRel.of (List.cons.inj e).2 rs)
theorem PRel.keys {κ γ β : Type} {R : β → γ → Prop} : ∀ {kvs : List (κ × β)} {vs : List (κ × γ)}, PRel R kvs vs → kvs.map (·.1) = vs.map (·.1)
  | _, _, .nil => rfl
  | _, _, .cons r t => by rw [List.map_cons, List.map_cons, r.1, PRel.keys t]
theorem PRel.vals {κ γ : Type} {f : γ → V} : ∀ {kvs : List (κ × SV)} {vs : List (κ × γ)}, PRel (fun x p => VR K ρ H x (f p)) kvs vs → VRs K ρ H (kvs.map (·.2)) (vs.map fun x => f x.2)
  | _, _, .nil => .nil
  | _, _, .cons r t => .cons r.2 (PRel.vals t)
end

/-! ### the dict with tuple keys -/
abbrev kb := NestedKey.beq
def KOk (K : PySem.W.Frag) (H : Hp) (k : NestedKey) (a : Addr) : Prop := VR K [] H (svK k) (.ref a) ∧ k.depth ≤ 8
def atX (vs : List KX) (k : NestedKey) : Option (Addr × V) := atG kb vs k
def stX (vs : List KX) (k : NestedKey) (a : Addr) (v : V) : List KX := putG kb vs k (a, v) fun p => (p.1, v)
def woX (vs : List KX) (k : NestedKey) : List KX := woG kb vs k
def RV2 (p : Addr × V) (q : Addr × Value) : Prop := p.1 = q.1 ∧ RelV p.2 q.2
theorem XY_iff {vs : List KX} {xs : List KY} : XY vs xs ↔ PRel RV2 vs xs := Iff.rfl
theorem kb_dec (a b : NestedKey) : kb a b = decide (a = b) := (NestedKey.decide_eq a b).symm
theorem atKey_G (xs : List KY) (k : NestedKey) : atKey xs k = atG kb xs k := by
  unfold atKey atG
  have e : (fun x : KY => decide (x.1 = k)) = fun kv => kb kv.1 k := funext fun x => (kb_dec _ _).symm
  rw [e]
  cases xs.find? fun kv => kb kv.1 k <;> rfl
theorem storedH_G (xs : List KY) (k : NestedKey) (a : Addr) (u : Value) : storedH xs k a u = putG kb xs k (a, u) fun p => (p.1, u) := by
  unfold storedH putG
  have e1 : (atKey xs k).isSome = xs.any fun kv => kb kv.1 k := by
    rw [atKey_G]
    unfold atG
    induction xs with
    | nil => rfl
    | cons x xs ih =>
      rw [List.find?_cons, List.any_cons]
      cases kb x.1 k with
      | true => rfl
      | false => simpa using ih
  have e2 : putAt k u = putAtG kb k (fun p : Addr × Value => (p.1, u)) := funext fun x => by
    unfold putAt putAtG
    rw [kb_dec]
    by_cases hx : x.1 = k
    · rw [if_pos hx, decide_eq_true hx]
    · rw [if_neg hx, decide_eq_false hx]
  rw [e1, e2]
  cases xs.any fun kv => kb kv.1 k <;> rfl
theorem withoutH_G (xs : List KY) (k : NestedKey) : withoutH xs k = woG kb xs k := by
  unfold withoutH woG
  congr 1
  funext x
  rw [kb_dec]
  by_cases hx : x.1 = k <;> simp [hx]
/-! a key stands as its tuple -/
mutual
theorem nested_of {X : Cx} {pins : List (Addr × Obj)} {σ : L2.St} {H : Hp} {s : Shared} {ρ : List Addr} (I : Inv X pins σ H s) : ∀ (k : NestedKey) (v : V) (u : Value), VR X.K ρ H (svK k) v → RelV v u → NestedIs s.heap k u
  | .none, _, _, r, ru => by cases r; cases ru; exact .none
  | .num i, _, _, r, ru => by cases r; obtain ⟨t, rfl⟩ := ru; exact .int i t
  | .text x, _, _, r, ru => by cases r; obtain ⟨t, rfl⟩ := ru; exact .text x t
  | .tup ks, _, _, r, ru => by
    cases r with
    | tup ht rs =>
      cases ru
      obtain ⟨its, rv, ⟨o, ho, hc, n, hd⟩, _⟩ := I.tuple ht.sq
      exact .tup ho hc hd (by simpa using nested_all I ks _ _ rs rv)
theorem nested_all {X : Cx} {pins : List (Addr × Obj)} {σ : L2.St} {H : Hp} {s : Shared} {ρ : List Addr} (I : Inv X pins σ H s) : ∀ (ks : List NestedKey) (vs : List V) (us : List Value), VRs X.K ρ H (svKs ks) vs → Vals vs us → NestedAll s.heap ks us
  | [], _, _, r, ru => by cases r; cases ru; exact .nil
  | k :: ks, _, _, r, ru => by
    cases r with
    | cons ra rs =>
      cases ru with
      | cons rb rt => exact .cons (nested_of I k _ _ ra rb) (nested_all I ks _ _ rs rt)
end
section
variable {X : Cx} {pins : List (Addr × Obj)} {σ : L2.St} {H : Hp} {s : Shared} {a d : Addr} {k : NestedKey} {vs : List KX}
theorem KOk.is (I : Inv X pins σ H s) (q : KOk X.K H k a) : (nestedKind X.prog X.w).is s.heap k a := ⟨nested_of I k _ _ q.1 rfl, q.2⟩
def DD (X : Cx) (H : Hp) (d : Addr) (vs : List KX) : Prop := H d = some (DX X.prog X.w d vs) ∧ ∀ x ∈ vs, KOk X.K H x.1 x.2.1
theorem dx_rd (I : Inv X pins σ H s) (q : DD X H d vs) : ∃ xs : List KY, XY vs xs ∧ s.heap.DictOfH (nestedKind X.prog X.w) d xs ∧ (d == sysModules) = false ∧ vs.length ≤ sizeLine := by
  obtain ⟨z, hn, nd, xs, rel, o, es, ep, ho, ex, hd, he⟩ := DX_raw _ _ (I.hok d _ q.1)
  refine ⟨xs, rel, ⟨o, es, ep, ho, ex, hd, he, fun x hx => ?_, by rw [← PRel.keys (XY_iff.mp rel)]; exact nd⟩, hn, z⟩
  obtain ⟨p, hp, e1, e2, _⟩ := PRel.mem (XY_iff.mp rel) hx
  have := (q.2 p hp).is I
  rw [e1, e2] at this
  exact this
/-- the dict written -/
theorem dx_wr {vs' : List KX} {xs' : List KY} {h' : Heap} {t' : Nat} (I : Inv X pins σ H s) (q : DD X H d vs) (rel : XY vs' xs') (z : vs'.length ≤ sizeLine) (hm : h'.DictOfH (nestedKind X.prog X.w) d xs') (hs : Heap.SameBut d s.heap h') :
    Inv X pins σ (upd H d (DX X.prog X.w d vs')) { s with heap := h', toks := t' } := by
  obtain ⟨xs, _, _, hn, _⟩ := dx_rd I q
  obtain ⟨o, es, ep, ho, ex, hd, he, _, nd⟩ := hm
  refine I.write (x := d) (e := d) (by rw [q.1]; trivial) (.inl rfl) (fun b u hb e => (hs.2 b hb).trans e) ⟨o, ho⟩ (DX_ok _ _ ⟨z, hn, ?_, xs', rel, o, es, ep, ho, ex, hd, he⟩)
  rw [PRel.keys (XY_iff.mp rel)]
  exact nd
theorem room8 {A : Around} (hu : A.units + 9 < cLine) : (nestedKind X.prog X.w).room A.in1 := by
  show A.units + 1 + 8 < cLine
  omega
/-! by values -/
def rDtAt (X : Cx) (f : Option V → Option V) : R2 := fun x y H Q => ∃ d a k vs v, x = .ref d ∧ y = .ref a ∧ DD X H d vs ∧ KOk X.K H k a ∧ f ((atX vs k).map (·.2)) = some v ∧ Q v H
theorem atX_none {xs : List KY} (rel : XY vs xs) (e : (atX vs k).map (·.2) = none) : atKey xs k = none := by
  rw [atKey_G]
  rcases PRel.find (t := kb) (k := k) (XY_iff.mp rel) with ⟨h1, h2⟩ | ⟨b, c, h1, h2, r⟩
  · exact h2
  · have h1 : atX vs k = some b := h1
    rw [h1] at e
    cases e
theorem atX_val {xs : List KY} {v : V} (rel : XY vs xs) (e : (atX vs k).map (·.2) = some v) : ∃ p, atKey xs k = some p ∧ RelV v p.2 := by
  rw [atKey_G]
  rcases PRel.find (t := kb) (k := k) (XY_iff.mp rel) with ⟨h1, h2⟩ | ⟨b, c, h1, h2, r⟩
  · have h1 : atX vs k = none := h1
    rw [h1] at e
    cases e
  · have h1 : atX vs k = some b := h1
    rw [h1] at e
    cases e
    exact ⟨c, h2, r.2⟩
theorem ix_dt (hu : X.A.units + 9 < cLine) : IxR X (rDtAt X id) := by
  intro value slice pins s σ H x y v u Q I rx ry h hs
  obtain ⟨d, a, k, vs, w', rfl, rfl, hd, hk, e, q⟩ := h
  cases rx
  cases ry
  obtain ⟨xs, rel, hm, _, _⟩ := dx_rd I hd
  obtain ⟨p, hp, rp⟩ := atX_val rel e
  refine tail_any hm.typeIs slot_dict_getitem.lookup (wpAny_getItem_heap (room8 hu) (hk.is I) hm hp ?_) hs
  exact ⟨w', H, I.tok _, rp, q⟩
def rDtIn (X : Cx) (neg : Bool) : R2 := fun y x H Q => ∃ d a k vs, x = .ref d ∧ y = .ref a ∧ DD X H d vs ∧ KOk X.K H k a ∧ Q (.bl (if neg then !(atX vs k).isSome else (atX vs k).isSome)) H
theorem isSome_val {xs : List KY} (rel : XY vs xs) : (atKey xs k).isSome = (atX vs k).isSome := by
  rw [atKey_G]
  rcases PRel.find (t := kb) (k := k) (XY_iff.mp rel) with ⟨h1, h2⟩ | ⟨b, c, h1, h2, r⟩
  · have h1 : atX vs k = none := h1
    rw [h1, h2]
    all_goals rfl
  · have h1 : atX vs k = some b := h1
    rw [h1, h2]
    all_goals rfl
theorem in_dt (hu : X.A.units + 9 < cLine) : OpR X (compareOp .In) (rDtIn X false) := by
  intro pins s σ H x y v u Q I rx ry h
  obtain ⟨d, a, k, vs, rfl, rfl, hd, hk, q⟩ := h
  cases rx
  cases ry
  obtain ⟨xs, rel, hm, hn, _⟩ := dx_rd I hd
  refine wpAny_in_heap (room8 hu) (hk.is I) hn hm ?_
  rw [isSome_val rel]
  exact ⟨.bl _, H, I.tok _, rfl, q⟩
theorem notIn_dt (hu : X.A.units + 9 < cLine) : OpR X (compareOp .NotIn) (rDtIn X true) := by
  intro pins s σ H x y v u Q I rx ry h
  obtain ⟨d, a, k, vs, rfl, rfl, hd, hk, q⟩ := h
  cases rx
  cases ry
  obtain ⟨xs, rel, hm, hn, _⟩ := dx_rd I hd
  refine notIn_keyed (room8 hu) (hk.is I) hn ⟨xs, hm, rfl⟩ ?_
  rw [valueAt_pairsH, Option.isSome_map, isSome_val rel]
  exact ⟨.bl _, H, I.tok _, rfl, q⟩
/-- d[k] = v -/
def rDtSet (X : Cx) : TSet := fun o i v H Q => ∃ d a k vs, o = .ref d ∧ i = .ref a ∧ DD X H d vs ∧ KOk X.K H k a ∧ (stX vs k a v).length ≤ sizeLine ∧ Q (upd H d (DX X.prog X.w d (stX vs k a v)))
theorem set_dt (hu : X.A.units + 9 < cLine) : PSet X (rDtSet X) := by
  intro pins s σ H o i v ov iv u Q I ro ri rv h
  obtain ⟨d, a, k, vs, rfl, rfl, hd, hk, z, q⟩ := h
  cases ro
  cases ri
  obtain ⟨xs, rel, hm, hn, hz⟩ := dx_rd I hd
  refine wpAny_setItem_heap (v := u) (room8 hu) (hk.is I) hm (fun h' hm' hs' => ?_) (by rw [← PRel.length (XY_iff.mp rel)]; exact hz)
  rw [storedH_G] at hm'
  exact ⟨_, dx_wr I hd (XY_iff.mpr (PRel.put (f := fun p => (p.1, v)) (g := fun p => (p.1, u)) (XY_iff.mp rel) ⟨rfl, rv⟩ fun b c r => ⟨r.1, rv⟩)) z hm' hs', q⟩
/-- d.get(k), d.get(k, x) -/
def rDtGet (X : Cx) : V → List V → Hp → VK → Prop := fun x xs H Q => ∃ d a k vs, x = .ref d ∧ DD X H d vs ∧ KOk X.K H k a ∧ ((xs = [.ref a] ∧ Q (((atX vs k).map (·.2)).getD .non) H) ∨ ∃ z, xs = [.ref a, z] ∧ Q (((atX vs k).map (·.2)).getD z) H)
theorem getD_val {xs : List KY} {z : V} {zu : Value} (rel : XY vs xs) (rz : RelV z zu) : RelV (((atX vs k).map (·.2)).getD z) ((valueAt (pairsH xs) k).getD zu) := by
  rw [valueAt_pairsH]
  cases e : (atX vs k).map (·.2) with
  | none =>
    rw [atX_none rel e]
    exact rz
  | some v =>
    obtain ⟨p, hp, r⟩ := atX_val rel e
    rw [hp]
    exact r
theorem mt_dtGet (hu : X.A.units + 9 < cLine) : MtR X "dict.get" (rDtGet X) := by
  intro pins s σ H x ys v us Q I rx ru h
  obtain ⟨d, a, k, vs, rfl, hd, hk, h⟩ := h
  cases rx
  obtain ⟨xs, rel, hm, hn, hz⟩ := dx_rd I hd
  rcases h with ⟨rfl, q⟩ | ⟨z, rfl, q⟩
  · obtain ⟨u, rfl, e⟩ := vals1 ru
    cases e
    exact get_keyed (room8 hu) (hk.is I) hn ⟨xs, hm, rfl⟩ ⟨_, H, I.tok _, getD_val (z := .non) (zu := .none) rel rfl, q⟩
  · obtain ⟨u, u2, rfl, e, rz⟩ := vals2 ru
    cases e
    exact getOr_keyed (room8 hu) (hk.is I) hn ⟨xs, hm, rfl⟩ ⟨_, H, I.tok _, getD_val rel rz, q⟩
/-- d.setdefault(k, x) -/
def rDtSd (X : Cx) : V → List V → Hp → VK → Prop := fun x xs H Q => ∃ d a k vs z, x = .ref d ∧ xs = [.ref a, z] ∧ DD X H d vs ∧ KOk X.K H k a ∧ (stX vs k a z).length ≤ sizeLine ∧
  ((∃ v, (atX vs k).map (·.2) = some v ∧ Q v H) ∨ ((atX vs k).map (·.2) = none ∧ Q z (upd H d (DX X.prog X.w d (stX vs k a z)))))
theorem mt_dtSd (hu : X.A.units + 9 < cLine) : MtR X "dict.setdefault" (rDtSd X) := by
  intro pins s σ H x ys v us Q I rx ru h
  obtain ⟨d, a, k, vs, z, rfl, rfl, hd, hk, hz2, h⟩ := h
  cases rx
  obtain ⟨u, u2, rfl, e, rz⟩ := vals2 ru
  cases e
  obtain ⟨xs, rel, hm, hn, hz⟩ := dx_rd I hd
  refine call_setdefault_heap (room8 hu) (hk.is I) hn hm (fun p hp => ?_) (fun hp h' hm' hs' => ?_) (by rw [← PRel.length (XY_iff.mp rel)]; exact hz)
  · rcases h with ⟨v, e, q⟩ | ⟨e, _⟩
    · obtain ⟨p', hp', r⟩ := atX_val rel e
      rw [hp] at hp'
      cases hp'
      exact ⟨v, H, I.tok _, r, q⟩
    · rw [atX_none rel e] at hp
      cases hp
  · rcases h with ⟨v, e, q⟩ | ⟨_, q⟩
    · obtain ⟨p', hp', r⟩ := atX_val rel e
      rw [hp] at hp'
      cases hp'
    · rw [storedH_G] at hm'
      exact ⟨z, _, dx_wr I hd (XY_iff.mpr (PRel.put (f := fun p => (p.1, z)) (g := fun p => (p.1, u2)) (XY_iff.mp rel) ⟨rfl, rz⟩ fun b c r => ⟨r.1, rz⟩)) hz2 hm' hs', rz, q⟩
/-- d.pop(k, x) -/
def rDtPop (X : Cx) : V → List V → Hp → VK → Prop := fun x xs H Q => ∃ d a k vs z, x = .ref d ∧ xs = [.ref a, z] ∧ DD X H d vs ∧ KOk X.K H k a ∧
  ((∃ v, (atX vs k).map (·.2) = some v ∧ Q v (upd H d (DX X.prog X.w d (woX vs k)))) ∨ ((atX vs k).map (·.2) = none ∧ Q z H))
theorem mt_dtPop (hu : X.A.units + 9 < cLine) : MtR X "dict.pop" (rDtPop X) := by
  intro pins s σ H x ys v us Q I rx ru h
  obtain ⟨d, a, k, vs, z, rfl, rfl, hd, hk, h⟩ := h
  cases rx
  obtain ⟨u, u2, rfl, e, rz⟩ := vals2 ru
  cases e
  obtain ⟨xs, rel, hm, hn, hz⟩ := dx_rd I hd
  have hz' : xs.length ≤ sizeLine := by rw [← PRel.length (XY_iff.mp rel)]; exact hz
  rcases h with ⟨v, e, q⟩ | ⟨e, q⟩
  · obtain ⟨p, hp, r⟩ := atX_val rel e
    refine call_pop_heap (more := [u2]) (.inr ⟨u2, rfl⟩) (F.args_dict_pop_3 _ _ _) (room8 hu) (hk.is I) hn hm hp (fun h' hm' hs' => ?_) hz'
    rw [withoutH_G] at hm'
    refine ⟨v, _, dx_wr I hd (XY_iff.mpr (PRel.wo (XY_iff.mp rel))) ?_ hm' hs', r, q⟩
    exact Nat.le_trans (List.length_filter_le _ _) hz
  · exact call_pop_default_heap (room8 hu) (hk.is I) hn hm (atX_none rel e) (fun tk => ⟨z, H, I.tok tk, rz, q⟩) hz'
/-- {} -/
def tDtNew (X : Cx) : TE := fun σ H Q => ∀ d, H d = none → Q (.ref d) (upd H d (DX X.prog X.w d []))
theorem pe_dtNew {pos : Pos} : PE X (.Dict [] [] pos) (tDtNew X) := ⟨fun pins s σ H Q I h =>
  wpAny_Dict_empty ⟨.ref s.heap.objs.size, _, I.laid (a := s.heap.objs.size) (t' := s.toks) (fun _ _ q => Heap.get?_push_of_some _ q) (Nat.le_refl _) (by
    obtain ⟨o, es, ep, ho, ex, hd, he, _, nd⟩ := Heap.DictOfH.new (knd := nestedKind X.prog X.w) s.heap
    refine DX_ok _ _ ⟨Nat.zero_le _, ?_, List.nodup_nil, [], .nil, o, es, ep, ho, ex, hd, he⟩
    exact (dk_empty (P := X.prog) (w := X.w) (H := H) s.heap I.big).2.1), rfl, h _ (I.hok.fresh (Nat.le_refl _))⟩⟩
end
end Ev

namespace Ev
open PySem L2 PySem.Spec PyProof.Rows

/-! ## keys -/
def keyOf (x : SV) : Option NestedKey := match nkS x with
  | some (.tup ks) => (match Nat.ble (NestedKey.tup ks).depth 8 with
    | true => some (.tup ks)
    | false => none)
  | _ => none
def keyK : SV → Option Key
  | .int i => some (.inl i)
  | .str x => some (.inr x)
  | _ => none
def kt : Key → Key → Bool
  | .inl i, .inl j => decide (i = j)
  | .inr x, .inr y => decide (x = y)
  | _, _ => false
theorem kt_dec (a b : Key) : kt a b = decide (a = b) := by
  cases a with
  | inl i => cases b with
    | inl j =>
      show decide (i = j) = _
      by_cases h : i = j <;> simp [h]
    | inr y => simp [kt]
  | inr x => cases b with
    | inl j => simp [kt]
    | inr y =>
      show decide (x = y) = _
      by_cases h : x = y <;> simp [h]
theorem valV_G (kvs : List (Key × V)) (k : Key) : valV kvs k = atG kt kvs k := by
  unfold valV atG
  have e : (fun kv : Key × V => decide (kv.1 = k)) = fun kv => kt kv.1 k := funext fun x => (kt_dec _ _).symm
  rw [e]
  cases kvs.find? fun kv => kt kv.1 k <;> rfl
theorem putK_G (kvs : List (Key × V)) (k : Key) (v : V) : putK kvs k v = putG kt kvs k v fun _ => v := by
  unfold putK putG
  have e : (fun kv : Key × V => decide (kv.1 = k)) = fun kv => kt kv.1 k := funext fun x => (kt_dec _ _).symm
  rw [e]
  cases kvs.any fun kv => kt kv.1 k with
  | true =>
    simp only [if_true]
    congr 1
    funext x
    unfold putAtG
    rw [kt_dec]
    by_cases h : x.1 = k <;> simp [h]
  | false => rfl
theorem dropK_G (kvs : List (Key × V)) (k : Key) : dropK kvs k = woG kt kvs k := by
  unfold dropK woG
  congr 1
  funext x
  rw [kt_dec]
  by_cases h : x.1 = k <;> simp [h]
section
variable {K : PySem.W.Frag} {ρ : List Addr} {H : Hp}
mutual
theorem VR.closed : ∀ (x : SV) (k : NestedKey) (v : V), nkS x = some k → VR K ρ H x v → VR K [] H x v
  | .non, _, _, _, r => by cases r; exact .non
  | .int _, _, _, _, r => by cases r; exact .int _
  | .str _, _, _, _, r => by cases r; exact .str _
  | .tup xs, k, _, e, r => by
    unfold nkS at e
    cases e2 : nkSs xs with
    | none => rw [e2] at e; cases e
    | some ks =>
      cases r with
      | tup ht rs => exact .tup ht (VRs.closed xs ks _ e2 rs)
  | .bl _, _, _, e, _ => by cases e
  | .ty _, _, _, e, _ => by cases e
  | .loc _, _, _, e, _ => by cases e
theorem VRs.closed : ∀ (xs : List SV) (ks : List NestedKey) (vs : List V), nkSs xs = some ks → VRs K ρ H xs vs → VRs K [] H xs vs
  | [], _, _, _, r => by cases r; exact .nil
  | x :: xs, ks, _, e, r => by
    unfold nkSs at e
    cases e1 : nkS x with
    | none => rw [e1] at e; cases e
    | some k =>
      rw [e1] at e
      simp only [] at e
      cases e2 : nkSs xs with
      | none => rw [e2] at e; cases e
      | some kk =>
        cases r with
        | cons ra rs => exact .cons (VR.closed x k _ e1 ra) (VRs.closed xs kk _ e2 rs)
end
theorem VR.open_ {x : SV} {v : V} (r : VR K [] H x v) : VR K ρ H x v := r.monoT (fun _ _ e => by simp at e) (fun _ _ t => t)
theorem keyOf_ok {x : SV} {v : V} {k : NestedKey} (e : keyOf x = some k) (r : VR K ρ H x v) : ∃ a, v = .ref a ∧ KOk K H k a ∧ svK k = x := by
  unfold keyOf at e
  split at e
  · rename_i ks en
    split at e
    · rename_i hd
      cases e
      have es := svK_nk x _ en
      have r' := VR.closed x _ v en r
      rw [← es] at r' ⊢
      cases r' with
      | tup ht rs => exact ⟨_, rfl, ⟨.tup ht rs, Nat.le_of_ble_eq_true hd⟩, rfl⟩
    · cases e
  · cases e
theorem keyK_ok {x : SV} {v : V} {k : Key} (e : keyK x = some k) (r : VR K ρ H x v) : v = kV k := by
  cases x with
  | int i => cases e; cases r; rfl
  | str i => cases e; cases r; rfl
  | _ => cases e
end
section
variable {X : Cx} {C : Bd} {ρ : List Addr} {h : VH} {H : Hp}
theorem Sim.dt {i : Nat} {kvs : List (NestedKey × SV)} {a : Addr} (S : Sim C X.prog X.w X.K ρ h H) (g : h.get i = some (.dt kvs)) (ra : ρ[i]? = some a) :
    ∃ vs, DD X H a vs ∧ PRel (fun x p => VR X.K ρ H x p.2) kvs vs := by
  obtain ⟨b, rb, o⟩ := S.obj i _ g
  rw [ra] at rb
  cases rb
  cases o with
  | @dt _ vs ho e q d r => exact ⟨vs, ⟨ho, fun x hx => ⟨q x hx, d x hx⟩⟩, PRel.of e r⟩
theorem Sim.dk {i : Nat} {kvs : List (Key × SV)} {a : Addr} (S : Sim C X.prog X.w X.K ρ h H) (g : h.get i = some (.dk kvs)) (ra : ρ[i]? = some a) :
    ∃ vs, H a = some (.dK vs) ∧ PRel (fun x p => VR X.K ρ H x p) kvs vs := by
  obtain ⟨b, rb, o⟩ := S.obj i _ g
  rw [ra] at rb
  cases rb
  cases o with
  | @dk _ vs ho e r => exact ⟨vs, ho, PRel.of (f := id) e (by simpa using r)⟩
theorem OR.dtP {a : Addr} {kvs : List (NestedKey × SV)} {vs : List KX} (q : DD X H a vs) (r : PRel (fun x p => VR X.K ρ H x p.2) kvs vs) : OR C X.prog X.w X.K ρ H a (.dt kvs) :=
  .dt q.1 (PRel.keys r) (fun x hx => (q.2 x hx).1) (fun x hx => (q.2 x hx).2) (PRel.vals r)
theorem OR.dkP {a : Addr} {kvs : List (Key × SV)} {vs : List (Key × V)} (q : H a = some (.dK vs)) (r : PRel (fun x p => VR X.K ρ H x p) kvs vs) : OR C X.prog X.w X.K ρ H a (.dk kvs) :=
  .dk q (PRel.keys r) (by simpa using PRel.vals (f := id) r)
end

/-! ## subscripts of dicts -/
def dctAt (a b : SV) (h : VH) : Option (Option SV) := match a with
  | .loc i => (match h.get i with
    | some (.dt kvs) => (match keyOf b with
      | some k => some (atG kb kvs k)
      | none => none)
    | some (.dk kvs) => (match keyK b with
      | some k => some (atG kt kvs k)
      | none => none)
    | _ => none)
  | _ => none
def dctIx (a b : SV) (h : VH) : EvR := match dctAt a b h with
  | some (some x) => some (x, h)
  | _ => none
def ixAll (a b : SV) (h : VH) : EvR := match ixP a b h with
  | some r => some r
  | none => dctIx a b h
def dctIn (b a : SV) (h : VH) : EvR := match dctAt a b h with
  | some (some _) => some (.bl true, h)
  | some none => some (.bl false, h)
  | none => none
def dctNotIn (b a : SV) (h : VH) : EvR := match dctAt a b h with
  | some (some _) => some (.bl false, h)
  | some none => some (.bl true, h)
  | none => none
def rDkAt : R2 := fun x y H Q => ∃ d v, x = .ref d ∧ DGet H d y (some v) ∧ Q v H
def rDkIn (neg : Bool) : R2 := fun y x H Q => ∃ d o, x = .ref d ∧ DGet H d y o ∧ Q (.bl (if neg then !o.isSome else o.isSome)) H
section
variable {X : Cx} {C : Bd}
theorem ix_dk (hu : X.A.units + 9 < cLine) : IxR X rDkAt := by
  intro value slice pins s σ H x y v u Q I rx ry h hs
  obtain ⟨d, w', rfl, g, q⟩ := h
  cases rx
  have hT : s.TypeIs (.ref d) "dict" := by
    rcases g with ⟨kvs, k, e, ey, l⟩ | ⟨kvs, k, b, e, ey, eb, l⟩
    · obtain ⟨z, hd, vs, rel, dd⟩ := dk_rd I.hok e
      exact dd.typeIs
    · obtain ⟨z, hd, xs, rel, dd⟩ := dt_rd I.hok e
      exact dd.typeIs
  exact tail_any hT slot_dict_getitem.lookup (d_getItem (by omega) I g ry fun w s' I' r => ⟨w', H, I', r, q⟩) hs
theorem in_dk (hu : X.A.units + 9 < cLine) : OpR X (compareOp .In) (rDkIn false) := by
  intro pins s σ H x y v u Q I rx ry h
  obtain ⟨d, o, rfl, g, q⟩ := h
  cases ry
  exact d_in (by omega) I g rx fun s' I' => ⟨.bl _, H, I', rfl, q⟩
theorem notIn_dk (hu : X.A.units + 9 < cLine) : OpR X (compareOp .NotIn) (rDkIn true) := by
  intro pins s σ H x y v u Q I rx ry h
  obtain ⟨d, o, rfl, g, q⟩ := h
  cases ry
  exact d_notIn (by omega) I g rx fun s' I' => ⟨.bl _, H, I', rfl, q⟩
/-- what a look-up finds, told of the real dict -/
theorem dctAt_ok {ρ : List Addr} {h : VH} {H : Hp} {a b : SV} {a' b' : V} {o : Option SV} (S : Sim C X.prog X.w X.K ρ h H) (ra : VR X.K ρ H a a') (rb : VR X.K ρ H b b') (e : dctAt a b h = some o) :
    (∃ d k p vs, a' = .ref d ∧ b' = .ref p ∧ DD X H d vs ∧ KOk X.K H k p ∧ ((o = none ∧ (atX vs k).map (·.2) = none) ∨ ∃ x v, o = some x ∧ (atX vs k).map (·.2) = some v ∧ VR X.K ρ H x v)) ∨
    (∃ d vs k, a' = .ref d ∧ b' = kV k ∧ H d = some (.dK vs) ∧ ((o = none ∧ valV vs k = none) ∨ ∃ x v, o = some x ∧ valV vs k = some v ∧ VR X.K ρ H x v)) := by
  unfold dctAt at e
  split at e
  · cases ra with
    | loc ha =>
      split at e
      · rename_i i kvs g
        split at e
        · rename_i k ek
          cases e
          obtain ⟨p, rfl, hk, _⟩ := keyOf_ok ek rb
          obtain ⟨vs, hd, rel⟩ := S.dt g ha
          refine .inl ⟨_, k, p, vs, rfl, rfl, hd, hk, ?_⟩
          rcases PRel.find (t := kb) (k := k) rel with ⟨h1, h2⟩ | ⟨x, q, h1, h2, r⟩
          · exact .inl ⟨h1, by unfold atX; rw [h2]; rfl⟩
          · exact .inr ⟨x, q.2, h1, by unfold atX; rw [h2]; rfl, r⟩
        · cases e
      · rename_i i kvs g
        split at e
        · rename_i k ek
          cases e
          have e2 := keyK_ok ek rb
          subst e2
          obtain ⟨vs, hd, rel⟩ := S.dk g ha
          refine .inr ⟨_, vs, k, rfl, rfl, hd, ?_⟩
          rcases PRel.find (t := kt) (k := k) rel with ⟨h1, h2⟩ | ⟨x, q, h1, h2, r⟩
          · exact .inl ⟨h1, by rw [valV_G]; exact h2⟩
          · exact .inr ⟨x, q, h1, by rw [valV_G]; exact h2, r⟩
        · cases e
      · cases e
  · cases e
def rIxAll (X : Cx) : R2 := fun x y H Q => (rIxL X.K x y H Q ∨ rIxT X.K x y H Q) ∨ rDtAt X id x y H Q ∨ rDkAt x y H Q
theorem ix_all (hu : X.A.units + 9 < cLine) : IxR X (rIxAll X) := IxR.or (IxR.or ix_list ix_tup) (IxR.or (ix_dt hu) (ix_dk hu))
theorem ixAll_ok : Pr2 C X.prog X.w X.K (rIxAll X) ixAll := by
  intro ρ h H a b a' b' Q S ra rb k
  obtain ⟨v, h', e, _⟩ := id k
  unfold ixAll at e
  split at e
  · rename_i r er
    refine .inl (ixP_ok ρ h H a b a' b' Q S ra rb ?_)
    obtain ⟨v1, h1, e1, kk⟩ := k
    unfold ixAll at e1
    rw [er] at e1
    exact ⟨v1, h1, by rw [er]; exact e1, kk⟩
  · rename_i er
    unfold dctIx at e
    split at e
    · rename_i x ed
      cases e
      have ek : ∀ {v' : V}, VR X.K ρ H v v' → Q v' H := fun rv => k.of (by unfold ixAll; rw [er]; simp only []; unfold dctIx; rw [ed]) .refl S rv
      rcases dctAt_ok S ra rb ed with ⟨d, kk, p, vs, rfl, rfl, hd, hk, h1⟩ | ⟨d, vs, kk, rfl, rfl, hd, h1⟩
      · rcases h1 with ⟨h1, _⟩ | ⟨x', v', h1, h2, rv⟩
        · cases h1
        · cases h1
          exact .inr (.inl ⟨d, p, kk, vs, v', rfl, rfl, hd, hk, h2, ek rv⟩)
      · rcases h1 with ⟨h1, _⟩ | ⟨x', v', h1, h2, rv⟩
        · cases h1
        · cases h1
          exact .inr (.inr ⟨d, v', rfl, by rw [← h2]; exact DGet.k hd, ek rv⟩)
    · cases e

/-! ## in, not in -/
def inP (a b : SV) (h : VH) : Option Bool := match seqOf h b with
  | some xs => (match toD a with
    | some d => (match toDs xs with
      | some ds => (match d.canLay0 && PyData.canLayAll0 ds && Nat.ble (min (PyData.depthAll ds) d.depth) 64 with
        | true => some (ds.any fun y => PyData.eqv y d)
        | false => none)
      | none => none)
    | none => none)
  | none => none
def inAll (a b : SV) (h : VH) : EvR := match inP a b h with
  | some r => some (.bl r, h)
  | none => dctIn a b h
def notInAll (a b : SV) (h : VH) : EvR := match inP a b h with
  | some r => some (.bl (!r), h)
  | none => dctNotIn a b h
def rInD (K : PySem.W.Frag) (neg : Bool) : R2 := fun x y H Q => ∃ p vs d ds, y = .ref p ∧ (SqL K H p vs ∨ SqT K H p vs) ∧ Dp K H x d ∧ DpAll K H vs ds ∧ d.canLay0 = true ∧ PyData.canLayAll0 ds = true ∧ min (PyData.depthAll ds) d.depth ≤ 64 ∧
  Q (.bl (if neg then !(ds.any fun y => PyData.eqv y d) else ds.any fun y => PyData.eqv y d)) H
theorem op_inD (hu : X.A.units + 66 < cLine) : OpR X (compareOp .In) (rInD X.K false) := by
  intro pins s σ H x y v u Q I rx ry h
  obtain ⟨p, vs, d, ds, rfl, hs, hd, hds, c1, c2, z, q⟩ := h
  obtain ⟨as, r1⟩ := Dp.reads I d x v hd rx
  rcases hs with hs | hs
  · obtain ⟨bs, r2⟩ := Dp.reads I (.list ds) _ u (.lst hs hds) ry
    exact SeqAt.in_list_reads r2 r1 c2 c1 (by omega) ⟨.bl _, H, I, rfl, q⟩
  · obtain ⟨bs, r2⟩ := Dp.reads I (.tuple ds) _ u (.tup hs hds) ry
    exact SeqAt.in_tuple_reads r2 r1 c2 c1 (by omega) ⟨.bl _, H, I, rfl, q⟩
theorem op_notInD (hu : X.A.units + 66 < cLine) : OpR X (compareOp .NotIn) (rInD X.K true) := by
  intro pins s σ H x y v u Q I rx ry h
  obtain ⟨p, vs, d, ds, rfl, hs, hd, hds, c1, c2, z, q⟩ := h
  obtain ⟨as, r1⟩ := Dp.reads I d x v hd rx
  rcases hs with hs | hs
  · obtain ⟨bs, r2⟩ := Dp.reads I (.list ds) _ u (.lst hs hds) ry
    exact SeqAt.notIn_list_reads r2 r1 c2 c1 (by omega) ⟨.bl _, H, I, rfl, q⟩
  · obtain ⟨bs, r2⟩ := Dp.reads I (.tuple ds) _ u (.tup hs hds) ry
    exact SeqAt.notIn_tuple_reads r2 r1 c2 c1 (by omega) ⟨.bl _, H, I, rfl, q⟩
def rInAll (X : Cx) (neg : Bool) : R2 := fun x y H Q => rInD X.K neg x y H Q ∨ rDtIn X neg x y H Q ∨ rDkIn neg x y H Q
theorem op_inAll (hu : X.A.units + 66 < cLine) : OpR X (compareOp .In) (rInAll X false) := OpR.or (op_inD hu) (OpR.or (in_dt (by omega)) (in_dk (by omega)))
theorem op_notInAll (hu : X.A.units + 66 < cLine) : OpR X (compareOp .NotIn) (rInAll X true) := OpR.or (op_notInD hu) (OpR.or (notIn_dt (by omega)) (notIn_dk (by omega)))
theorem inP_ok {ρ : List Addr} {h : VH} {H : Hp} {a b : SV} {a' b' : V} {r : Bool} (S : Sim C X.prog X.w X.K ρ h H) (ra : VR X.K ρ H a a') (rb : VR X.K ρ H b b') (e : inP a b h = some r) :
    ∃ p vs d ds, b' = .ref p ∧ (SqL X.K H p vs ∨ SqT X.K H p vs) ∧ Dp X.K H a' d ∧ DpAll X.K H vs ds ∧ d.canLay0 = true ∧ PyData.canLayAll0 ds = true ∧ min (PyData.depthAll ds) d.depth ≤ 64 ∧ (ds.any fun y => PyData.eqv y d) = r := by
  unfold inP at e
  split at e
  · rename_i xs es
    split at e
    · rename_i d ed
      split at e
      · rename_i ds eds
        split at e
        · rename_i hc
          cases e
          rw [Bool.and_eq_true, Bool.and_eq_true] at hc
          obtain ⟨p, vs, rfl, hs, rs⟩ := seqOf_ok S rb es
          exact ⟨p, vs, d, ds, rfl, hs, toD_ok a _ d ed ra, toDs_ok xs _ ds eds rs, hc.1.1, hc.1.2, Nat.le_of_ble_eq_true hc.2, rfl⟩
        · cases e
      · cases e
    · cases e
  · cases e
theorem inAll_ok : Pr2 C X.prog X.w X.K (rInAll X false) inAll := by
  intro ρ h H a b a' b' Q S ra rb k
  obtain ⟨v, h', e, _⟩ := id k
  unfold inAll at e
  split at e
  · rename_i r er
    cases e
    obtain ⟨p, vs, d, ds, rfl, hs, hd, hds, c1, c2, z, e2⟩ := inP_ok S ra rb er
    refine .inl ⟨p, vs, d, ds, rfl, hs, hd, hds, c1, c2, z, ?_⟩
    rw [e2]
    exact k.of (by unfold inAll; rw [er]) .refl S (.bl r)
  · rename_i er
    unfold dctIn at e
    have ek : ∀ {b' : Bool}, inAll a b h = some (.bl b', h) → Q (.bl b') H := fun er => k.of er .refl S (.bl _)
    split at e
    · rename_i x ed
      have q := ek (b' := true) (by unfold inAll; rw [er]; simp only []; unfold dctIn; rw [ed])
      rcases dctAt_ok S rb ra ed with ⟨d, kk, p, vs, rfl, rfl, hd, hk, h1⟩ | ⟨d, vs, kk, rfl, rfl, hd, h1⟩
      · rcases h1 with ⟨h1, _⟩ | ⟨x', v', h1, h2, rv⟩
        · cases h1
        · refine .inr (.inl ⟨d, p, kk, vs, rfl, rfl, hd, hk, ?_⟩)
          have e3 : (atX vs kk).isSome = true := by rw [← Option.isSome_map (f := (·.2)), h2]; rfl
          rw [e3]
          exact q
      · rcases h1 with ⟨h1, _⟩ | ⟨x', v', h1, h2, rv⟩
        · cases h1
        · exact .inr (.inr ⟨d, _, rfl, DGet.k hd, by rw [h2]; exact q⟩)
    · rename_i ed
      have q := ek (b' := false) (by unfold inAll; rw [er]; simp only []; unfold dctIn; rw [ed])
      rcases dctAt_ok S rb ra ed with ⟨d, kk, p, vs, rfl, rfl, hd, hk, h1⟩ | ⟨d, vs, kk, rfl, rfl, hd, h1⟩
      · rcases h1 with ⟨_, h2⟩ | ⟨x', v', h1, h2, rv⟩
        · refine .inr (.inl ⟨d, p, kk, vs, rfl, rfl, hd, hk, ?_⟩)
          have e3 : (atX vs kk).isSome = false := by rw [← Option.isSome_map (f := (·.2)), h2]; rfl
          rw [e3]
          exact q
        · cases h1
      · rcases h1 with ⟨_, h2⟩ | ⟨x', v', h1, h2, rv⟩
        · exact .inr (.inr ⟨d, _, rfl, DGet.k hd, by rw [h2]; exact q⟩)
        · cases h1
    · cases e
theorem notInAll_ok : Pr2 C X.prog X.w X.K (rInAll X true) notInAll := by
  intro ρ h H a b a' b' Q S ra rb k
  obtain ⟨v, h', e, _⟩ := id k
  unfold notInAll at e
  split at e
  · rename_i r er
    cases e
    obtain ⟨p, vs, d, ds, rfl, hs, hd, hds, c1, c2, z, e2⟩ := inP_ok S ra rb er
    refine .inl ⟨p, vs, d, ds, rfl, hs, hd, hds, c1, c2, z, ?_⟩
    rw [e2]
    exact k.of (by unfold notInAll; rw [er]) .refl S (.bl (!r))
  · rename_i er
    unfold dctNotIn at e
    have ek : ∀ {b' : Bool}, notInAll a b h = some (.bl b', h) → Q (.bl b') H := fun er => k.of er .refl S (.bl _)
    split at e
    · rename_i x ed
      have q := ek (b' := false) (by unfold notInAll; rw [er]; simp only []; unfold dctNotIn; rw [ed])
      rcases dctAt_ok S rb ra ed with ⟨d, kk, p, vs, rfl, rfl, hd, hk, h1⟩ | ⟨d, vs, kk, rfl, rfl, hd, h1⟩
      · rcases h1 with ⟨h1, _⟩ | ⟨x', v', h1, h2, rv⟩
        · cases h1
        · refine .inr (.inl ⟨d, p, kk, vs, rfl, rfl, hd, hk, ?_⟩)
          have e3 : (atX vs kk).isSome = true := by rw [← Option.isSome_map (f := (·.2)), h2]; rfl
          rw [e3]
          exact q
      · rcases h1 with ⟨h1, _⟩ | ⟨x', v', h1, h2, rv⟩
        · cases h1
        · exact .inr (.inr ⟨d, _, rfl, DGet.k hd, by rw [h2]; exact q⟩)
    · rename_i ed
      have q := ek (b' := true) (by unfold notInAll; rw [er]; simp only []; unfold dctNotIn; rw [ed])
      rcases dctAt_ok S rb ra ed with ⟨d, kk, p, vs, rfl, rfl, hd, hk, h1⟩ | ⟨d, vs, kk, rfl, rfl, hd, h1⟩
      · rcases h1 with ⟨_, h2⟩ | ⟨x', v', h1, h2, rv⟩
        · refine .inr (.inl ⟨d, p, kk, vs, rfl, rfl, hd, hk, ?_⟩)
          have e3 : (atX vs kk).isSome = false := by rw [← Option.isSome_map (f := (·.2)), h2]; rfl
          rw [e3]
          exact q
        · cases h1
      · rcases h1 with ⟨_, h2⟩ | ⟨x', v', h1, h2, rv⟩
        · exact .inr (.inr ⟨d, _, rfl, DGet.k hd, by rw [h2]; exact q⟩)
        · cases h1
    · cases e

/-! ## < of data -/
def ltD (a b : SV) (h : VH) : EvR := match toD a with
  | some d => (match toD b with
    | some e => (match PySem.W.alike d e && Nat.ble (min d.depth e.depth) 64 with
      | true => (match d with
        | .none => none
        | _ => some (.bl (PySem.W.dataLt d e), h))
      | false => none)
    | none => none)
  | none => none
def rLtD (K : PySem.W.Frag) : R2 := fun x y H Q => ∃ d e, Dp K H x d ∧ Dp K H y e ∧ PySem.W.alike d e = true ∧ d ≠ .none ∧ min d.depth e.depth ≤ 64 ∧ Q (.bl (PySem.W.dataLt d e)) H
theorem op_ltD (hu : X.A.units + 66 < cLine) : OpR X (compareOp .Lt) (rLtD X.K) := by
  intro pins s σ H x y v u Q I rx ry h
  obtain ⟨d, e, hd, he, ha, hn, z, q⟩ := h
  obtain ⟨as, r1⟩ := Dp.reads I d x v hd rx
  obtain ⟨bs, r2⟩ := Dp.reads I e y u he ry
  exact PySem.W.lt_data r1 r2 ha hn (by omega) ⟨.bl _, H, I, rfl, q⟩
theorem ltD_ok : Pr2 C X.prog X.w X.K (rLtD X.K) ltD := by
  intro ρ h H a b a' b' Q S ra rb k
  obtain ⟨v, h', e, _⟩ := id k
  unfold ltD at e
  split at e
  · rename_i d ed
    split at e
    · rename_i d2 ed2
      split at e
      · rename_i hc
        have hc' := Bool.and_eq_true_iff.mp hc
        refine ⟨d, d2, toD_ok a _ d ed ra, toD_ok b _ d2 ed2 rb, hc'.1, ?_, Nat.le_of_ble_eq_true hc'.2, ?_⟩
        · intro z
          subst z
          cases e
        · have e2 : ltD a b h = some (.bl (PySem.W.dataLt d d2), h) := by
            unfold ltD
            rw [ed]
            simp only []
            rw [ed2]
            simp only []
            rw [hc]
            simp only []
            cases d <;> first | rfl | (exact absurd e (by simp))
          exact k.of e2 .refl S (.bl _)
      · cases e
    · cases e
  · cases e
end
end Ev

namespace Ev
open PySem L2 PySem.Spec PyProof.Rows

/-! ## a built-in's methods, any receiver -/
inductive Kd where
  | str | lst | tup | dct
def Kd.nm : Kd → String
  | .str => "str" | .lst => "list" | .tup => "tuple" | .dct => "dict"
def isKd (kd : Kd) (x : SV) (h : VH) : Bool := match x with
  | .str _ => (match kd with | .str => true | _ => false)
  | .tup _ => (match kd with | .tup => true | _ => false)
  | .loc i => (match h.get i with
    | some (.lst _) => (match kd with | .lst => true | _ => false)
    | some (.dk _) => (match kd with | .dct => true | _ => false)
    | some (.dt _) => (match kd with | .dct => true | _ => false)
    | _ => false)
  | _ => false
def tyW (X : Cx) (T : String) (x : V) (H : Hp) : Prop := ∀ (pins : List (Addr × Obj)) (σ : L2.St) (s : Shared) (v : Value), Inv X pins σ H s → RelV x v → s.TypeIs v T ∧ ∀ a, v = .ref a → ∃ ob, s.heap.get? a = some ob ∧ ob.dict = none
theorem tyV_W {X : Cx} {T : String} {x : V} {H : Hp} (h : tyV X.K T x H) : tyW X T x H := fun _ _ _ _ I r => tyV_is I r h
theorem isKd_ok {X : Cx} {C : Bd} {ρ : List Addr} {h : VH} {H : Hp} {kd : Kd} {x : SV} {v : V} (S : Sim C X.prog X.w X.K ρ h H) (r : VR X.K ρ H x v) (e : isKd kd x h = true) : tyW X kd.nm v H := by
  cases x with
  | str z =>
    cases r
    cases kd <;> first | (cases e; done) | exact tyV_W rfl
  | tup xs =>
    cases r with
    | tup ht rs =>
      cases kd <;> first | (cases e; done) | skip
      intro pins σ s u I ru
      cases ru
      obtain ⟨its, rv, ⟨o, ho, hc, n, hd⟩, _⟩ := I.tuple ht.sq
      refine ⟨⟨o, ho, hc⟩, fun a e => ?_⟩
      cases e
      exact ht.nodict I
  | loc i =>
    cases r with
    | loc ha =>
      unfold isKd at e
      simp only [] at e
      split at e
      · rename_i xs g
        cases kd <;> first | (cases e; done) | skip
        obtain ⟨vs, hl, _⟩ := S.lst g ha
        exact tyV_W (.inl ⟨rfl, vs, SqL.of hl⟩)
      · rename_i kvs g
        cases kd <;> first | (cases e; done) | skip
        obtain ⟨vs, hd, _⟩ := S.dk g ha
        exact tyV_W (.inr (.inr (.inl ⟨rfl, .inl ⟨_, hd⟩⟩)))
      · rename_i kvs g
        cases kd <;> first | (cases e; done) | skip
        obtain ⟨vs, hd, _⟩ := S.dt g ha
        intro pins σ s u I ru
        cases ru
        obtain ⟨xs, rel, ⟨o, es, ep, ho, ex, _⟩, _⟩ := dx_rd I hd
        refine ⟨⟨o, ho, ex.1⟩, fun a e => ?_⟩
        cases e
        exact ⟨o, ho, ex.2.1⟩
      · cases e
  | _ => cases e
def tBMW (X : Cx) (T : String) (r : V → List V → Hp → VK → Prop) (to : TE) (t : TA) : TE := fun σ H Q => to σ H fun x H1 => tyW X T x H1 ∧ t σ H1 fun xs H2 => r x xs H2 Q
section
variable {X : Cx} {o e : Expr} {es : List Expr} {to : TE} {t : TA} {name : Str} {apos cpos : Pos} {T id : String} {r : V → List V → Hp → VK → Prop}
theorem pe_bm0W (pa : PlainAttrs T) (slot : Slot T name id) (hty : typeOf (.builtin id) = pure (.type "method_descriptor")) (hm : MtR X id r) (ho : PE X o to)
    (hbase : attributeBase o name X.env (eval o X.env) = eval o X.env := by rfl) (hline : (apos.endLine == cpos.line) = true := by rfl) : PE X (.Call (.Attribute o name apos) [] [] cpos) (tBMW X T r to tNil) := by
  refine ⟨fun pins s σ H Q I h => ?_⟩
  refine wpAny_Call_method0_late hbase hline (thn (ho.run pins s σ H _ I h) fun v s1 ⟨x, H1, I1, r1, ty, q1⟩ => ?_)
  obtain ⟨h1, h2⟩ := ty _ _ _ _ I1 r1
  exact ⟨T, id, pa, slot, hty, h1, h2, Calls.callWith_builtin rfl (PySem.evalArgs_none (hm pins s1 σ H1 x [] v [] Q I1 r1 .nil q1))⟩
theorem pe_bmW (pa : PlainAttrs T) (slot : Slot T name id) (hty : typeOf (.builtin id) = pure (.type "method_descriptor")) (hm : MtR X id r) (ho : PE X o to) (ha : PA X (e :: es) t)
    (hbase : attributeBase o name X.env (eval o X.env) = eval o X.env := by rfl)
    (hfew : ((backTo cpos (starEach (e :: es) X.env)).all (fun x => !x.1) && (backToKw cpos (keywordEach [] X.env)).all (fun x => x.1.isSome)
      && decide ((e :: es).length + ([] : List Keyword).length + (if ([] : List Keyword).isEmpty then 0 else 1) < 30)) = true := by rfl)
    (hline : (apos.endLine == cpos.line) = true := by rfl) (hs : starEach (e :: es) X.env = (false, eval e X.env) :: starEach es X.env := by rfl) (hplain : (backTo cpos (starEach es X.env)).any (·.1) = false := by rfl) :
    PE X (.Call (.Attribute o name apos) (e :: es) [] cpos) (tBMW X T r to t) := by
  refine ⟨fun pins s σ H Q I h => ?_⟩
  refine wpAny_Call_method_late hbase hfew hline rfl (thn (ho.run pins s σ H _ I h) fun v s1 ⟨x, H1, I1, r1, ty, q1⟩ => ?_)
  obtain ⟨h1, h2⟩ := ty _ _ _ _ I1 r1
  refine ⟨T, id, pa, slot, hty, h1, h2, ?_⟩
  have hA := ha.run cpos pins s1 σ H1 _ I1 q1
  rw [hs] at hA ⊢
  refine Calls.callWith_builtin (by show (false || (backTo cpos (starEach es X.env)).any (·.1)) = false; rw [hplain] <;> rfl) (Calls.evalArgs_plain ?_)
  exact thn hA fun us s2 ⟨vs, H2, I2, r2, q2⟩ => hm pins s2 σ H2 x vs v us Q I2 r1 r2 q2
end
def evMethK (kd : Kd) (p : SV → List SV → VH → EvR) (fa : EF) (fs : AF) : EF := fun l h => match fa l h with
  | some (a, h1) => (match isKd kd a h1 with
    | true => (match fs l h1 with
      | some (xs, h2) => p a xs h2
      | none => none)
    | false => none)
  | none => none
theorem tBMW_ev {X : Cx} {C : Bd} {kd : Kd} {r : V → List V → Hp → VK → Prop} {p : SV → List SV → VH → EvR} {fa : EF} {fs : AF} {σ : L2.St} {H : Hp} {Q : VK} (hp : PrM C X.prog X.w X.K r p) (q : tEv C X.prog X.w X.K (evMethK kd p fa fs) σ H Q) :
    tBMW X kd.nm r (tEv C X.prog X.w X.K fa) (tAv C X.prog X.w X.K fs) σ H Q := by
  obtain ⟨ρ, l, h, S, L, v, h', e, k⟩ := q
  unfold evMethK at e
  split at e
  · rename_i a h1 ea
    split at e
    · rename_i hk
      split at e
      · rename_i xs h2 eb
        refine ⟨ρ, l, h, S, L, a, h1, ea, fun ρ1 H1 a' x1 S1 ra => ⟨isKd_ok S1 ra hk, ρ1, l, h1, S1, L.mono x1, xs, h2, eb, fun ρ2 H2 vs x2 S2 rs => ?_⟩⟩
        exact hp ρ2 h2 H2 a xs a' vs Q S2 (ra.mono x2) rs ⟨v, h', e, fun ρ3 H3 v3 x3 S3 r3 => k ρ3 H3 v3 ((x1.trans x2).trans x3) S3 r3⟩
      · cases e
    · cases e
  · cases e

/-! ## list methods -/
def appP (a : SV) (xs : List SV) (h : VH) : EvR := match lstOf h a with
  | some (i, ys) => (match xs with
    | [y] => (match lim ys.length with
      | true => some (.non, h.put i (.lst (ys ++ [y])))
      | false => none)
    | _ => none)
  | none => none
def extP (a : SV) (xs : List SV) (h : VH) : EvR := match lstOf h a with
  | some (i, ys) => (match xs with
    | [y] => (match lstOf h y with
      | some (_, zs) => (match lim (ys.length + zs.length) with
        | true => some (.non, h.put i (.lst (ys ++ zs)))
        | false => none)
      | none => none)
    | _ => none)
  | none => none
def popP (a : SV) (xs : List SV) (h : VH) : EvR := match lstOf h a with
  | some (i, ys) => (match xs with
    | [] => (match ys[ys.length - 1]? with
      | some y => some (y, h.put i (.lst ys.dropLast))
      | none => none)
    | _ => none)
  | none => none
def idxI : List Int → Int → Option Nat
  | [], _ => none
  | x :: xs, k => match decide (x = k) with
    | true => some 0
    | false => match idxI xs k with
      | some j => some (Nat.succ j)
      | none => none
theorem idxI_ok : ∀ {ns : List Int} {k : Int} {j : Nat}, idxI ns k = some j → ns[j]? = some k ∧ ∀ m : Nat, m < j → ns[m]? ≠ some k
  | [], _, _, e => by cases e
  | x :: xs, k, j, e => by
    unfold idxI at e
    split at e
    · rename_i h
      cases e
      exact ⟨by simpa using of_decide_eq_true h, fun m hm => absurd hm (Nat.not_lt_zero _)⟩
    · rename_i h
      have hx : x ≠ k := of_decide_eq_false h
      split at e
      · rename_i i ei
        cases e
        obtain ⟨h1, h2⟩ := idxI_ok ei
        refine ⟨by simpa using h1, fun m hm => ?_⟩
        cases m with
        | zero => simpa using hx
        | succ m => simpa using h2 m (Nat.lt_of_succ_lt_succ hm)
      · cases e
def remP (a : SV) (xs : List SV) (h : VH) : EvR := match lstOf h a with
  | some (i, ys) => (match xs with
    | [.int k] => (match intsOf ys with
      | some ns => (match idxI ns k with
        | some j => some (.non, h.put i (.lst ((ns.eraseIdx j).map .int)))
        | none => none)
      | none => none)
    | _ => none)
  | none => none
section
variable {C : Bd} {P : Program} {w : World} {K : PySem.W.Frag}
theorem lim_lt {n : Nat} (h : lim n = true) : n < sizeLine := by
  have h : n + 1 ≤ 4096 := Nat.le_of_ble_eq_true h
  rw [sizeLine_eq]
  omega
theorem Sim.wlst {ρ : List Addr} {h : VH} {H : Hp} {i : Nat} {p : Addr} {us vs : List V} {ys : List SV} (S : Sim C P w K ρ h H) (ha : ρ[i]? = some p) (hl : H p = some (.lst us)) (r : VRs K ρ H ys vs) :
    Ext K ρ H ρ (upd H p (.lst vs)) ∧ Sim C P w K ρ (h.put i (.lst ys)) (upd H p (.lst vs)) := by
  have m : Mut (H p) := by rw [hl]; trivial
  exact S.write ha m (.lst upd_same (r.mono (Ext.write (S.live _ (List.mem_of_getElem? ha)) (List.mem_of_getElem? ha) m)))
theorem appP_ok : PrM C P w K rAppend appP := by
  intro ρ h H a xs a' vs Q S ra rs k
  obtain ⟨v, h', e, _⟩ := id k
  unfold appP at e
  split at e
  · rename_i i ys es
    split at e
    · rename_i y
      split at e
      · rename_i hl
        cases e
        obtain ⟨p, us, rfl, rfl, g, hρ, hH, ru⟩ := lstOf_ok S ra es
        obtain _ | ⟨ry, rt⟩ := rs
        cases rt
        refine ⟨p, us, _, rfl, rfl, hH, by rw [← ru.length]; exact lim_lt hl, ?_⟩
        obtain ⟨E, S2⟩ := S.wlst hρ hH (ru.append (.cons ry .nil))
        exact k.of (by unfold appP; rw [es]; simp only []; rw [hl]) E S2 .non
      · cases e
    · cases e
  · cases e
theorem extP_ok : PrM C P w K rExtend extP := by
  intro ρ h H a xs a' vs Q S ra rs k
  obtain ⟨v, h', e, _⟩ := id k
  unfold extP at e
  split at e
  · rename_i i ys es
    split at e
    · rename_i y
      split at e
      · rename_i j zs ez
        split at e
        · rename_i hl
          cases e
          obtain ⟨p, us, rfl, rfl, g, hρ, hH, ru⟩ := lstOf_ok S ra es
          obtain _ | ⟨ry, rt⟩ := rs
          cases rt
          obtain ⟨b, ws, rfl, rfl, g2, hρ2, hB, rw'⟩ := lstOf_ok S ry ez
          refine ⟨p, b, us, ws, rfl, rfl, hH, hB, by rw [← ru.length, ← rw'.length]; exact lim_le hl, ?_⟩
          obtain ⟨E, S2⟩ := S.wlst hρ hH (ru.append rw')
          exact k.of (by unfold extP; rw [es]; simp only []; rw [ez]; simp only []; rw [hl]) E S2 .non
        · cases e
      · cases e
    · cases e
  · cases e
theorem VRs.dropLast {ρ : List Addr} {H : Hp} {xs : List SV} {vs : List V} (r : VRs K ρ H xs vs) : VRs K ρ H xs.dropLast vs.dropLast := by
  rw [List.dropLast_eq_take, List.dropLast_eq_take, r.length]
  exact r.take _
theorem popP_ok : PrM C P w K rPop popP := by
  intro ρ h H a xs a' vs Q S ra rs k
  obtain ⟨v, h', e, _⟩ := id k
  unfold popP at e
  split at e
  · rename_i i ys es
    split at e
    · split at e
      · rename_i y hy
        cases e
        obtain ⟨p, us, rfl, rfl, g, hρ, hH, ru⟩ := lstOf_ok S ra es
        cases rs
        obtain ⟨u, hu, ruy⟩ := ru.get hy
        refine ⟨p, us, u, rfl, rfl, hH, by rw [← ru.length]; exact hu, ?_⟩
        obtain ⟨E, S2⟩ := S.wlst hρ hH ru.dropLast
        exact k.of (by unfold popP; rw [es]; simp only []; rw [hy]) E S2 (ruy.mono E)
      · cases e
    · cases e
  · cases e
theorem remP_ok : PrM C P w K rRemI remP := by
  intro ρ h H a xs a' vs Q S ra rs k
  obtain ⟨v, h', e, _⟩ := id k
  unfold remP at e
  split at e
  · rename_i i ys es
    split at e
    · rename_i n
      split at e
      · rename_i ns en
        split at e
        · rename_i j ej
          cases e
          obtain ⟨p, us, rfl, rfl, g, hρ, hH, ru⟩ := lstOf_ok S ra es
          obtain _ | ⟨ry, rt⟩ := rs
          cases rt
          cases ry
          have e2 := intsOf_ok ru en
          subst e2
          obtain ⟨h1, h2⟩ := idxI_ok ej
          refine ⟨p, ns, n, j, rfl, rfl, hH, h1, h2, ?_⟩
          obtain ⟨E, S2⟩ := S.wlst (vs := (ns.eraseIdx j).map V.int) hρ hH (VRs.ints _)
          exact k.of (by unfold remP; rw [es]; simp only []; rw [en]; simp only []; rw [ej]) E S2 .non
        · cases e
      · cases e
    · cases e
  · cases e
end

/-! ## t.index(x) -/
def idxN : List NestedKey → NestedKey → Option Nat
  | [], _ => none
  | x :: xs, k => match kb x k with
    | true => some 0
    | false => match idxN xs k with
      | some j => some (Nat.succ j)
      | none => none
theorem idxN_ok : ∀ {ns : List NestedKey} {k : NestedKey} {j : Nat}, idxN ns k = some j → k ∈ ns ∧ ns.idxOf k = j
  | [], _, _, e => by cases e
  | x :: xs, k, j, e => by
    unfold idxN at e
    rw [kb_dec] at e
    split at e
    · rename_i h
      cases e
      have hx := of_decide_eq_true h
      subst hx
      exact ⟨List.mem_cons_self, by simp⟩
    · rename_i h
      have hx : x ≠ k := of_decide_eq_false h
      split at e
      · rename_i i ei
        cases e
        obtain ⟨h1, h2⟩ := idxN_ok ei
        refine ⟨List.mem_cons_of_mem _ h1, ?_⟩
        rw [List.idxOf_cons, beq_eq_false_iff_ne.mpr hx, h2]
        rfl
      · cases e
def idxP (a : SV) (xs : List SV) (h : VH) : EvR := match tupOf a with
  | some ys => (match xs with
    | [y] => (match nkSs ys with
      | some ks => (match nkS y with
        | some k => (match Nat.ble k.depth 60 with
          | true => (match idxN ks k with
            | some j => some (.int j, h)
            | none => none)
          | false => none)
        | none => none)
      | none => none)
    | _ => none)
  | none => none
def rIdxN (K : PySem.W.Frag) : V → List V → Hp → VK → Prop := fun x xs H Q => ∃ p ys z ks k, x = .ref p ∧ xs = [z] ∧ SqT K H p ys ∧ VRs K [] H (svKs ks) ys ∧ VR K [] H (svK k) z ∧ k.depth ≤ 60 ∧ k ∈ ks ∧ Q (.int (ks.idxOf k : Nat)) H
theorem nested_len {h : Heap} {ks : List NestedKey} {us : List Value} (r : NestedAll h ks us) : us.length = ks.length := NestedAll.length ks us r
theorem nestedAll_at {h : Heap} : ∀ {ks : List NestedKey} {us : List Value}, NestedAll h ks us → ∀ {j : Nat} {k : NestedKey} {u : Value}, ks[j]? = some k → us[j]? = some u → NestedIs h k u
  | _, _, .nil, _, _, _, e, _ => by simp at e
  | _, _, .cons h t, 0, _, _, e, f => by simp at e f; subst e; subst f; exact h
  | _, _, .cons h t, j + 1, _, _, e, f => nestedAll_at t (j := j) (by simpa using e) (by simpa using f)
section
variable {X : Cx} {C : Bd}
theorem mt_idxN (hu : X.A.units + 66 < cLine) : MtR X "tuple.index" (rIdxN X.K) := by
  intro pins s σ H x xs v us Q I rx rs h
  obtain ⟨p, ys, z, ks, k, rfl, rfl, hq, ry, rz, hd, hm, q⟩ := h
  cases rx
  obtain ⟨u, rfl, ru⟩ := vals1 rs
  obtain ⟨its, rv, pl, hz⟩ := I.tuple hq
  have N := nested_all I ks ys its ry rv
  have Nz := nested_of I k z u rz ru
  refine SeqAt.call_tuple_index (ks := ks) (k := k) pl ⟨nested_len N, fun j h1 h2 => ?_⟩ hm ⟨.int _, H, I.tok _, ⟨_, rfl⟩, q⟩
  have Nj := nestedAll_at N (j := j) (List.getElem?_eq_getElem h2) (List.getElem?_eq_getElem h1)
  have E := eqAt_key ks[j] k X.A.in1 s its[j] u Nj Nz (by
    have : min ks[j].depth k.depth ≤ k.depth := Nat.min_le_right _ _
    show X.A.units + 1 + _ < cLine
    omega)
  exact E.cast (kb_dec _ _)
theorem idxP_ok : PrM C X.prog X.w X.K (rIdxN X.K) idxP := by
  intro ρ h H a xs a' vs Q S ra rs k
  obtain ⟨v, h', e, _⟩ := id k
  unfold idxP at e
  split at e
  · rename_i ys es
    split at e
    · rename_i y
      split at e
      · rename_i ks ek
        split at e
        · rename_i kk ekk
          split at e
          · rename_i hd
            split at e
            · rename_i j ej
              cases e
              obtain ⟨p, us, rfl, rfl, ht, ru⟩ := tupOf_ok ra es
              obtain _ | ⟨ry, rt⟩ := rs
              cases rt
              obtain ⟨h1, h2⟩ := idxN_ok ej
              refine ⟨p, us, _, ks, kk, rfl, rfl, ht.sq, ?_, ?_, Nat.le_of_ble_eq_true hd, h1, ?_⟩
              · rw [svKs_nk _ _ ek]; exact VRs.closed _ _ _ ek ru
              · rw [svK_nk _ _ ekk]; exact VR.closed _ _ _ ekk ry
              · rw [h2]
                exact k.of (by unfold idxP; rw [es]; simp only []; rw [ek]; simp only []; rw [ekk]; simp only []; rw [hd]; simp only []; rw [ej]) .refl S (.int _)
            · cases e
          · cases e
        · cases e
      · cases e
    · cases e
  · cases e
end

/-! ## texts -/
def joinP (a : SV) (xs : List SV) (h : VH) : EvR := match a with
  | .str z => (match xs with
    | [y] => (match seqOf h y with
      | some ys => (match strsOf ys with
        | some ts => (match Nat.ble ((ts.map (·.length)).sum + ts.length * z.length) 4096 with
          | true => some (.str (Txt.join z ts), h)
          | false => none)
        | none => none)
      | none => none)
    | _ => none)
  | _ => none
/-- s.replace(y, z), y not in s -/
def replP (a : SV) (xs : List SV) (h : VH) : EvR := match a with
  | .str z => (match xs with
    | [.str x, .str _] => (match (Builtin.Str.occurrences z x 0 z.length (z.length + 1)).isEmpty with
      | true => some (.str z, h)
      | false => none)
    | _ => none)
  | _ => none
def strP : List SV → VH → EvR
  | [.int i], h => match Nat.blt i.natAbs 1000000 with
    | true => some (.str (toString i : String), h)
    | false => none
  | _, _ => none
def rJoin (K : PySem.W.Frag) : V → List V → Hp → VK → Prop := fun x xs H Q => ∃ a p, ∃ ys : List Str, x = .str a ∧ xs = [.ref p] ∧ (SqL K H p (ys.map V.str) ∨ SqT K H p (ys.map V.str)) ∧
    (ys.map (·.length)).sum + ys.length * a.length ≤ 16777216 ∧ Q (.str (Txt.join a ys)) H
theorem mt_joinR {X : Cx} : MtR X "str.join" (rJoin X.K) := mt_join
def rRepl : V → List V → Hp → VK → Prop := fun x xs H Q => ∃ a y z, x = .str a ∧ xs = [.str y, .str z] ∧ (Builtin.Str.occurrences a y 0 a.length (a.length + 1)).isEmpty = true ∧ Q (.str a) H
theorem mt_repl {X : Cx} : MtR X "str.replace" rRepl := by
  intro pins s σ H x xs v us Q I rx rs h
  obtain ⟨a, y, z, rfl, rfl, ho, q⟩ := h
  obtain ⟨t, rfl⟩ := rx
  obtain ⟨u1, u2, rfl, ⟨t1, rfl⟩, ⟨t2, rfl⟩⟩ := vals2 rs
  refine call_gives F.slot_str_replace (typeIs_str _ _ _) F.entry_str_replace (F.args_str_replace_3 _ _ _)
    (gives_str_replace a y z t t1 t2 fun hc => by rw [ho] at hc; cases hc) ?_
  rw [ho]
  exact ⟨.str a, H, I, ⟨_, rfl⟩, q⟩
def rStrI : List V → Hp → VK → Prop := fun xs H Q => ∃ i, xs = [.int i] ∧ i.natAbs.log2 < 1920 ∧ Q (.str (toString i)) H
theorem call_strI {X : Cx} : CallR X (.type "str") rStrI := call_str_int
section
variable {C : Bd} {P : Program} {w : World} {K : PySem.W.Frag}
theorem joinP_ok : PrM C P w K (rJoin K) joinP := by
  intro ρ h H a xs a' vs Q S ra rs k
  obtain ⟨v, h', e, _⟩ := id k
  unfold joinP at e
  split at e
  · rename_i z
    split at e
    · rename_i y
      split at e
      · rename_i ys es
        split at e
        · rename_i ts et
          split at e
          · rename_i hl
            cases e
            cases ra
            obtain _ | ⟨ry, rt⟩ := rs
            cases rt
            obtain ⟨p, us, rfl, hs, ru⟩ := seqOf_ok S ry es
            have e2 := strsOf_ok ru et
            subst e2
            refine ⟨z, p, ts, rfl, rfl, hs, Nat.le_trans (Nat.le_of_ble_eq_true hl) (by decide), ?_⟩
            exact k.of (by unfold joinP; simp only []; rw [es]; simp only []; rw [et]; simp only []; rw [hl]) .refl S (.str _)
          · cases e
        · cases e
      · cases e
    · cases e
  · cases e
theorem replP_ok : PrM C P w K rRepl replP := by
  intro ρ h H a xs a' vs Q S ra rs k
  obtain ⟨v, h', e, _⟩ := id k
  unfold replP at e
  split at e
  · rename_i z
    split at e
    · rename_i x y
      split at e
      · rename_i ho
        cases e
        cases ra
        obtain _ | ⟨rx, rt⟩ := rs
        obtain _ | ⟨ry, rt⟩ := rt
        cases rt
        cases rx
        cases ry
        exact ⟨z, x, y, rfl, rfl, ho, k.of (by unfold replP; simp only []; rw [ho]) .refl S (.str _)⟩
      · cases e
    · cases e
  · cases e
theorem log2_small {n : Nat} (h : n < 1000000) : n.log2 < 1920 := by
  have h1 : n < 2 ^ 20 := Nat.lt_trans h (by decide)
  by_cases h0 : n = 0
  · subst h0; decide
  · have := (Nat.log2_lt h0).mpr h1
    omega
theorem strP_ok : PrL C P w K rStrI strP := by
  intro ρ h H xs vs Q S rs k
  obtain ⟨v, h', e, _⟩ := id k
  unfold strP at e
  split at e
  · rename_i i
    split at e
    · rename_i hl
      cases e
      obtain _ | ⟨ra, rt⟩ := rs
      cases rt
      cases ra
      refine ⟨i, rfl, log2_small (Nat.le_of_ble_eq_true hl), ?_⟩
      exact k.of (by unfold strP; simp only []; rw [hl]) .refl S (.str _)
    · cases e
  · cases e
end
end Ev

namespace Ev
open PySem L2 PySem.Spec PyProof.Rows

/-! ## dict methods -/
def dtKey (a y : SV) (h : VH) : Option (Nat × List (NestedKey × SV) × NestedKey) := match a with
  | .loc i => (match h.get i with
    | some (.dt kvs) => (match keyOf y with
      | some k => some (i, kvs, k)
      | none => none)
    | _ => none)
  | _ => none
def dkKey (a y : SV) (h : VH) : Option (Nat × List (Key × SV) × Key) := match a with
  | .loc i => (match h.get i with
    | some (.dk kvs) => (match keyK y with
      | some k => some (i, kvs, k)
      | none => none)
    | _ => none)
  | _ => none
section
variable {X : Cx} {C : Bd} {ρ : List Addr} {h : VH} {H : Hp}
theorem dtKey_ok {a y : SV} {a' y' : V} {i : Nat} {kvs : List (NestedKey × SV)} {k : NestedKey} (S : Sim C X.prog X.w X.K ρ h H) (ra : VR X.K ρ H a a') (ry : VR X.K ρ H y y') (e : dtKey a y h = some (i, kvs, k)) :
    ∃ d p vs, a' = .ref d ∧ y' = .ref p ∧ ρ[i]? = some d ∧ DD X H d vs ∧ PRel (fun x q => VR X.K ρ H x q.2) kvs vs ∧ KOk X.K H k p := by
  unfold dtKey at e
  split at e
  · split at e
    · rename_i g
      split at e
      · rename_i ek
        cases e
        cases ra with
        | loc ha =>
          obtain ⟨vs, hd, rel⟩ := S.dt g ha
          obtain ⟨p, rfl, hk, _⟩ := keyOf_ok ek ry
          exact ⟨_, p, vs, rfl, rfl, ha, hd, rel, hk⟩
      · cases e
    · cases e
  · cases e
theorem dkKey_ok {a y : SV} {a' y' : V} {i : Nat} {kvs : List (Key × SV)} {k : Key} (S : Sim C X.prog X.w X.K ρ h H) (ra : VR X.K ρ H a a') (ry : VR X.K ρ H y y') (e : dkKey a y h = some (i, kvs, k)) :
    ∃ d vs, a' = .ref d ∧ y' = kV k ∧ ρ[i]? = some d ∧ H d = some (.dK vs) ∧ PRel (fun x q => VR X.K ρ H x q) kvs vs := by
  unfold dkKey at e
  split at e
  · split at e
    · rename_i g
      split at e
      · rename_i ek
        cases e
        cases ra with
        | loc ha =>
          obtain ⟨vs, hd, rel⟩ := S.dk g ha
          exact ⟨_, vs, rfl, keyK_ok ek ry, ha, hd, rel⟩
      · cases e
    · cases e
  · cases e
theorem KOk.mono {ρ' : List Addr} {H' : Hp} {k : NestedKey} {p : Addr} (E : Ext X.K ρ H ρ' H') (q : KOk X.K H k p) : KOk X.K H' k p := ⟨q.1.monoT (fun _ _ z => z) E.tups, q.2⟩
theorem putG_mem {κ β : Type} {t : κ → κ → Bool} {xs : List (κ × β)} {k : κ} {b : β} {f : β → β} {x : κ × β} (hx : x ∈ putG t xs k b f) : (∃ y ∈ xs, x.1 = y.1 ∧ (x.2 = y.2 ∨ x.2 = f y.2)) ∨ x = (k, b) := by
  unfold putG at hx
  split at hx
  · obtain ⟨y, hy, e⟩ := List.mem_map.mp hx
    refine .inl ⟨y, hy, ?_⟩
    subst e
    unfold putAtG
    split
    · exact ⟨rfl, .inr rfl⟩
    · exact ⟨rfl, .inl rfl⟩
  · rcases List.mem_append.mp hx with hx | hx
    · exact .inl ⟨x, hx, rfl, .inl rfl⟩
    · exact .inr (List.mem_singleton.mp hx)
/-- a dict with tuple keys, written -/
theorem Sim.wdt {i : Nat} {d : Addr} {vs vs' : List KX} {kvs' : List (NestedKey × SV)} (S : Sim C X.prog X.w X.K ρ h H) (ha : ρ[i]? = some d) (hd : DD X H d vs) (q : ∀ x ∈ vs', KOk X.K H x.1 x.2.1) (r : PRel (fun x q => VR X.K ρ H x q.2) kvs' vs') :
    Ext X.K ρ H ρ (upd H d (DX X.prog X.w d vs')) ∧ Sim C X.prog X.w X.K ρ (h.put i (.dt kvs')) (upd H d (DX X.prog X.w d vs')) := by
  have m : Mut (H d) := by rw [hd.1]; trivial
  have E : Ext X.K ρ H ρ (upd H d (DX X.prog X.w d vs')) := Ext.write (S.live _ (List.mem_of_getElem? ha)) (List.mem_of_getElem? ha) m
  exact S.write ha m (OR.dtP ⟨upd_same, fun x hx => (q x hx).mono E⟩ (r.mono fun _ _ z => z.mono E))
theorem Sim.wdk {i : Nat} {d : Addr} {vs vs' : List (Key × V)} {kvs' : List (Key × SV)} (S : Sim C X.prog X.w X.K ρ h H) (ha : ρ[i]? = some d) (hd : H d = some (.dK vs)) (r : PRel (fun x q => VR X.K ρ H x q) kvs' vs') :
    Ext X.K ρ H ρ (upd H d (.dK vs')) ∧ Sim C X.prog X.w X.K ρ (h.put i (.dk kvs')) (upd H d (.dK vs')) := by
  have m : Mut (H d) := by rw [hd]; trivial
  have E : Ext X.K ρ H ρ (upd H d (.dK vs')) := Ext.write (S.live _ (List.mem_of_getElem? ha)) (List.mem_of_getElem? ha) m
  exact S.write ha m (OR.dkP upd_same (r.mono fun _ _ z => z.mono E))
end
def getP (a : SV) (xs : List SV) (h : VH) : EvR := match xs with
  | [y] => (match dtKey a y h with
    | some (_, kvs, k) => (match atG kb kvs k with
      | some x => some (x, h)
      | none => some (.non, h))
    | none => none)
  | [y, z] => (match dtKey a y h with
    | some (_, kvs, k) => (match atG kb kvs k with
      | some x => some (x, h)
      | none => some (z, h))
    | none => none)
  | _ => none
def sdP (a : SV) (xs : List SV) (h : VH) : EvR := match xs with
  | [y, z] => (match dtKey a y h with
    | some (i, kvs, k) => (match lim kvs.length with
      | true => (match atG kb kvs k with
        | some x => some (x, h)
        | none => some (z, h.put i (.dt (putG kb kvs k z fun _ => z))))
      | false => none)
    | none => none)
  | _ => none
def popDP (a : SV) (xs : List SV) (h : VH) : EvR := match xs with
  | [y, z] => (match dtKey a y h with
    | some (i, kvs, k) => (match atG kb kvs k with
      | some x => some (x, h.put i (.dt (woG kb kvs k)))
      | none => some (z, h))
    | none => none)
  | _ => none
def popKP (a : SV) (xs : List SV) (h : VH) : EvR := match xs with
  | [y] => (match dkKey a y h with
    | some (i, kvs, k) => (match atG kt kvs k with
      | some x => some (x, h.put i (.dk (woG kt kvs k)))
      | none => none)
    | none => none)
  | _ => none
def rDkPop : V → List V → Hp → VK → Prop := fun x xs H Q => ∃ d vs k v, x = .ref d ∧ xs = [kV k] ∧ H d = some (.dK vs) ∧ valV vs k = some v ∧ Q v (upd H d (.dK (dropK vs k)))
section
variable {X : Cx} {C : Bd}
theorem mt_dkPop : MtR X "dict.pop" rDkPop := by
  intro pins s σ H x ys v us Q I rx ru h
  obtain ⟨d, vs, k, w', rfl, rfl, hd, hv, q⟩ := h
  cases rx
  obtain ⟨u, rfl, e⟩ := vals1 ru
  exact d_pop (more := []) I hd e hv (.inl rfl) fun w2 s' I' r => ⟨w', _, I', r, q⟩
theorem putG_len {κ β : Type} {t : κ → κ → Bool} {xs : List (κ × β)} {k : κ} {b : β} {f : β → β} : (putG t xs k b f).length ≤ xs.length + 1 := by
  unfold putG
  split
  · rw [List.length_map]; omega
  · rw [List.length_append]; exact Nat.le_refl _
theorem getP_ok : PrM C X.prog X.w X.K (rDtGet X) getP := by
  intro ρ h H a xs a' vs Q S ra rs k
  obtain ⟨v, h', e, _⟩ := id k
  unfold getP at e
  split at e
  · rename_i y
    split at e
    · rename_i i kvs kk ek
      obtain _ | ⟨ry, rt⟩ := rs
      cases rt
      obtain ⟨d, p, us, rfl, rfl, ha, hd, rel, hk⟩ := dtKey_ok S ra ry ek
      refine ⟨d, p, kk, us, rfl, hd, hk, .inl ⟨rfl, ?_⟩⟩
      rcases PRel.find (t := kb) (k := kk) rel with ⟨h1, h2⟩ | ⟨x, q, h1, h2, r⟩
      · have : atX us kk = none := h2
        rw [this]
        exact k.of (by unfold getP; simp only []; rw [ek]; simp only []; rw [h1]) .refl S .non
      · have : atX us kk = some q := h2
        rw [this]
        exact k.of (by unfold getP; simp only []; rw [ek]; simp only []; rw [h1]) .refl S r
    · cases e
  · rename_i y z
    split at e
    · rename_i i kvs kk ek
      obtain _ | ⟨ry, rt⟩ := rs
      obtain _ | ⟨rz, rt⟩ := rt
      cases rt
      obtain ⟨d, p, us, rfl, rfl, ha, hd, rel, hk⟩ := dtKey_ok S ra ry ek
      refine ⟨d, p, kk, us, rfl, hd, hk, .inr ⟨_, rfl, ?_⟩⟩
      rcases PRel.find (t := kb) (k := kk) rel with ⟨h1, h2⟩ | ⟨x, q, h1, h2, r⟩
      · have : atX us kk = none := h2
        rw [this]
        exact k.of (by unfold getP; simp only []; rw [ek]; simp only []; rw [h1]) .refl S rz
      · have : atX us kk = some q := h2
        rw [this]
        exact k.of (by unfold getP; simp only []; rw [ek]; simp only []; rw [h1]) .refl S r
    · cases e
  · cases e
theorem stX_ok {ρ : List Addr} {H : Hp} {us : List KX} {kk : NestedKey} {p d : Addr} {z' : V} (hd : DD X H d us) (hk : KOk X.K H kk p) : ∀ x ∈ stX us kk p z', KOk X.K H x.1 x.2.1 := fun x hx => by
  rcases putG_mem hx with ⟨y, hy, e1, e2⟩ | e
  · have := hd.2 y hy
    rw [e1]
    rcases e2 with e2 | e2
    · rw [e2]; exact this
    · rw [e2]; exact this
  · rw [e]; exact hk
theorem stX_len {us : List KX} {kk : NestedKey} {p : Addr} {z' : V} {n : Nat} (e : n = us.length) (hl : lim n = true) : (stX us kk p z').length ≤ sizeLine := by
  have h1 := lim_lt hl
  have h2 : (stX us kk p z').length ≤ us.length + 1 := putG_len
  omega
theorem sdP_ok : PrM C X.prog X.w X.K (rDtSd X) sdP := by
  intro ρ h H a xs a' vs Q S ra rs k
  obtain ⟨v, h', e, _⟩ := id k
  unfold sdP at e
  split at e
  · rename_i y z
    split at e
    · rename_i i kvs kk ek
      split at e
      · rename_i hl
        obtain _ | ⟨ry, rt⟩ := rs
        obtain _ | ⟨rz, rt⟩ := rt
        cases rt
        obtain ⟨d, p, us, rfl, rfl, ha, hd, rel, hk⟩ := dtKey_ok S ra ry ek
        refine ⟨d, p, kk, us, _, rfl, rfl, hd, hk, stX_len rel.length hl, ?_⟩
        rcases PRel.find (t := kb) (k := kk) rel with ⟨h1, h2⟩ | ⟨x, q, h1, h2, r⟩
        · have h3 : atX us kk = none := h2
          refine .inr ⟨by rw [h3]; rfl, ?_⟩
          obtain ⟨E, S2⟩ := S.wdt (kvs' := putG kb kvs kk z fun _ => z) ha hd (stX_ok (ρ := ρ) hd hk) (rel.put rz fun _ _ _ => rz)
          exact k.of (by unfold sdP; simp only []; rw [ek]; simp only []; rw [hl]; simp only []; rw [h1]) E S2 (rz.mono E)
        · have h3 : atX us kk = some q := h2
          exact .inl ⟨q.2, by rw [h3]; rfl, k.of (by unfold sdP; simp only []; rw [ek]; simp only []; rw [hl]; simp only []; rw [h1]) .refl S r⟩
      · cases e
    · cases e
  · cases e
theorem popDP_ok : PrM C X.prog X.w X.K (rDtPop X) popDP := by
  intro ρ h H a xs a' vs Q S ra rs k
  obtain ⟨v, h', e, _⟩ := id k
  unfold popDP at e
  split at e
  · rename_i y z
    split at e
    · rename_i i kvs kk ek
      obtain _ | ⟨ry, rt⟩ := rs
      obtain _ | ⟨rz, rt⟩ := rt
      cases rt
      obtain ⟨d, p, us, rfl, rfl, ha, hd, rel, hk⟩ := dtKey_ok S ra ry ek
      refine ⟨d, p, kk, us, _, rfl, rfl, hd, hk, ?_⟩
      rcases PRel.find (t := kb) (k := kk) rel with ⟨h1, h2⟩ | ⟨x, q, h1, h2, r⟩
      · have h3 : atX us kk = none := h2
        exact .inr ⟨by rw [h3]; rfl, k.of (by unfold popDP; simp only []; rw [ek]; simp only []; rw [h1]) .refl S rz⟩
      · have h3 : atX us kk = some q := h2
        refine .inl ⟨q.2, by rw [h3]; rfl, ?_⟩
        obtain ⟨E, S2⟩ := S.wdt (kvs' := woG kb kvs kk) ha hd (vs' := woX us kk) (fun x hx => hd.2 x (List.mem_filter.mp hx).1) rel.wo
        exact k.of (by unfold popDP; simp only []; rw [ek]; simp only []; rw [h1]) E S2 (r.mono E)
    · cases e
  · cases e
theorem popKP_ok : PrM C X.prog X.w X.K rDkPop popKP := by
  intro ρ h H a xs a' vs Q S ra rs k
  obtain ⟨v, h', e, _⟩ := id k
  unfold popKP at e
  split at e
  · rename_i y
    split at e
    · rename_i i kvs kk ek
      obtain _ | ⟨ry, rt⟩ := rs
      cases rt
      obtain ⟨d, us, rfl, rfl, ha, hd, rel⟩ := dkKey_ok S ra ry ek
      rcases PRel.find (t := kt) (k := kk) rel with ⟨h1, h2⟩ | ⟨x, q, h1, h2, r⟩
      · rw [h1] at e
        cases e
      · refine ⟨d, us, kk, q, rfl, rfl, hd, by rw [valV_G]; exact h2, ?_⟩
        rw [dropK_G]
        obtain ⟨E, S2⟩ := S.wdk (kvs' := woG kt kvs kk) ha hd rel.wo
        exact k.of (by unfold popKP; simp only []; rw [ek]; simp only []; rw [h1]) E S2 (r.mono E)
    · cases e
  · cases e
end

/-! ## o[i] = v -/
def setP (o i v : SV) (h : VH) : Option VH := match dtKey o i h with
  | some (j, kvs, k) => (match lim kvs.length with
    | true => some (h.put j (.dt (putG kb kvs k v fun _ => v)))
    | false => none)
  | none => match dkKey o i h with
    | some (j, kvs, k) => (match lim kvs.length with
      | true => some (h.put j (.dk (putG kt kvs k v fun _ => v)))
      | false => none)
    | none => none
def rSetAll (X : Cx) : TSet := fun o i v H Q => rDtSet X o i v H Q ∨ rSetD o i v H Q
section
variable {X : Cx} {C : Bd}
theorem set_all (hu : X.A.units + 9 < cLine) : PSet X (rSetAll X) := by
  intro pins s σ H o i v ov iv u Q I ro ri rv h
  rcases h with h | h
  · exact set_dt hu pins s σ H o i v ov iv u Q I ro ri rv h
  · exact set_dict (by omega) pins s σ H o i v ov iv u Q I ro ri rv h
theorem setP_ok {ρ : List Addr} {h h1 : VH} {H : Hp} {o i v : SV} {o' i' v' : V} {Q : Hp → Prop} (S : Sim C X.prog X.w X.K ρ h H) (ro : VR X.K ρ H o o') (ri : VR X.K ρ H i i') (rv : VR X.K ρ H v v') (e : setP o i v h = some h1)
    (k : ∀ H', Ext X.K ρ H ρ H' → Sim C X.prog X.w X.K ρ h1 H' → Q H') : rSetAll X o' i' v' H Q := by
  unfold setP at e
  split at e
  · rename_i j kvs kk ek
    split at e
    · rename_i hl
      cases e
      obtain ⟨d, p, us, rfl, rfl, ha, hd, rel, hk⟩ := dtKey_ok S ro ri ek
      refine .inl ⟨d, p, kk, us, rfl, rfl, hd, hk, stX_len rel.length hl, ?_⟩
      obtain ⟨E, S2⟩ := S.wdt (kvs' := putG kb kvs kk v fun _ => v) ha hd (stX_ok (ρ := ρ) hd hk) (rel.put rv fun _ _ _ => rv)
      exact k _ E S2
    · cases e
  · split at e
    · rename_i j kvs kk ek
      split at e
      · rename_i hl
        cases e
        obtain ⟨d, us, rfl, rfl, ha, hd, rel⟩ := dkKey_ok S ro ri ek
        refine .inr ⟨d, _, rfl, DPut.k hd (by rw [← rel.length]; exact lim_lt hl), ?_⟩
        rw [putK_G]
        obtain ⟨E, S2⟩ := S.wdk (kvs' := putG kt kvs kk v fun _ => v) ha hd (rel.put rv fun _ _ _ => rv)
        exact k _ E S2
      · cases e
    · cases e
end
/-- o[i] = e -/
def evPut (fo fi fe : EF) : SF := fun l h => match fe l h with
  | some (v, h1) => (match fo l h1 with
    | some (o, h2) => (match fi l h2 with
      | some (i, h3) => (match setP o i v h3 with
        | some h4 => some (.nx l h4)
        | none => none)
      | none => none)
    | none => none)
  | none => none
theorem tPut_ev {X : Cx} {C : Bd} {fo fi fe : EF} {σ : L2.St} {H : Hp} {D : Ends} (q : tSv C X.prog X.w X.K (evPut fo fi fe) D σ H) :
    tAsg (tEv C X.prog X.w X.K fe) (gSub (tEv C X.prog X.w X.K fo) (tEv C X.prog X.w X.K fi) (rSetAll X)) D σ H := by
  obtain ⟨ρ, l, h, S, L, ⟨l', h', e, k⟩ | ⟨v, h', e, k⟩⟩ := q
  · unfold evPut at e
    split at e
    · rename_i v h1 e1
      split at e
      · rename_i o h2 e2
        split at e
        · rename_i i h3 e3
          split at e
          · rename_i h4 e4
            cases e
            refine ⟨ρ, l, h, S, L, v, h1, e1, fun ρ1 H1 v' x1 S1 rv => ⟨ρ1, l, h1, S1, L.mono x1, o, h2, e2, fun ρ2 H2 o' x2 S2 ro => ⟨ρ2, l, h2, S2, (L.mono x1).mono x2, i, h3, e3, fun ρ3 H3 i' x3 S3 ri => ?_⟩⟩⟩
            refine setP_ok S3 (ro.mono x3) ri ((rv.mono x2).mono x3) e4 fun H4 E4 S4 => ?_
            exact k ρ3 H4 σ (((x1.trans x2).trans x3).trans E4) S4 ((((L.mono x1).mono x2).mono x3).mono E4)
          · cases e
        · cases e
      · cases e
    · cases e
  · unfold evPut at e
    split at e
    · split at e
      · split at e
        · split at e <;> cases e
        · cases e
      · cases e
    · cases e

/-! ## new dicts -/
def evNewT : EF := fun _ h => some (.loc h.n, (h.new (.dt [])).2)
def evNewK : EF := fun _ h => some (.loc h.n, (h.new (.dk [])).2)
section
variable {X : Cx} {C : Bd} {σ : L2.St} {H : Hp} {Q : VK}
theorem tNewT_ev (q : tEv C X.prog X.w X.K evNewT σ H Q) : tDtNew X σ H Q := by
  obtain ⟨ρ, l, h, S, L, v, h', e, k⟩ := q
  cases e
  intro d hd
  have E : Ext X.K ρ H (ρ ++ [d]) (upd H d (DX X.prog X.w d [])) := Ext.new hd
  exact k (ρ ++ [d]) _ _ E (S.new hd (OR.dtP ⟨upd_same, fun x hx => by cases hx⟩ .nil)) (.loc (by rw [← S.len]; simp))
theorem tNewK_ev (q : tEv C X.prog X.w X.K evNewK σ H Q) : tDNewK σ H Q := by
  obtain ⟨ρ, l, h, S, L, v, h', e, k⟩ := q
  cases e
  intro d hd
  have E : Ext X.K ρ H (ρ ++ [d]) (upd H d (.dK [])) := Ext.new hd
  exact k (ρ ++ [d]) _ _ E (S.new hd (OR.dkP upd_same .nil)) (.loc (by rw [← S.len]; simp))
end

/-! ## len of a dict with tuple keys -/
def lenDP : List SV → VH → EvR
  | [.loc i], h => match h.get i with
    | some (.dt kvs) => (match lim kvs.length with
      | true => some (.int kvs.length, h)
      | false => none)
    | _ => none
  | _, _ => none
def rLenDt (X : Cx) : List V → Hp → VK → Prop := fun xs H Q => ∃ d vs, xs = [.ref d] ∧ DD X H d vs ∧ Q (.int vs.length) H
theorem call_lenDt {X : Cx} : CallR X (.builtin "len") (rLenDt X) := by
  intro pins s σ H xs us Q I r h
  obtain ⟨d, vs, rfl, hd, q⟩ := h
  obtain ⟨u, rfl, rx⟩ := vals1 r
  cases rx
  obtain ⟨ys, rel, hm, hn, hz⟩ := dx_rd I hd
  have hl : ys.length = vs.length := (PRel.length (XY_iff.mp rel)).symm
  have h63 := line63
  refine call_len_slot (n := (vs.length : Nat)) hm.typeIs F.slot_dict_len (fun Q' hq => len_keyed hn ⟨ys, hm, rfl⟩ ?_) (by omega) (by omega) ⟨.int _, H, I.tok _, ⟨_, rfl⟩, q⟩
  rw [pairsH_length, hl]
  exact hq
theorem lenDP_ok {X : Cx} {C : Bd} : PrL C X.prog X.w X.K (rLenDt X) lenDP := by
  intro ρ h H xs vs Q S rs k
  obtain ⟨v, h', e, _⟩ := id k
  unfold lenDP at e
  split at e
  · rename_i i
    split at e
    · rename_i kvs g
      split at e
      · rename_i hl
        cases e
        obtain _ | ⟨ra, rt⟩ := rs
        cases rt
        cases ra with
        | loc ha =>
          obtain ⟨us, hd, rel⟩ := S.dt g ha
          refine ⟨_, us, rfl, hd, ?_⟩
          rw [← rel.length]
          exact k.of (by unfold lenDP; simp only []; rw [g]; simp only []; rw [hl]) .refl S (.int _)
      · cases e
    · cases e
  · cases e

/-! ## slices -/
def cutS (xs : List SV) (lo hi : Option Int) : List SV := (xs.drop (HT.sIx xs.length 0 lo)).take (HT.sIx xs.length xs.length hi - HT.sIx xs.length 0 lo)
def wholeS (n : Nat) (lo hi : Option Int) : Bool := decide (HT.sIx n 0 lo = 0) && decide (HT.sIx n n hi = n)
def slP (a : SV) (lo hi : Option Int) (h : VH) : EvR := match a with
  | .tup xs => (match wholeS xs.length lo hi with
    | true => some (.tup xs, h)
    | false => mkTup (cutS xs lo hi) h)
  | .loc i => (match h.get i with
    | some (.lst xs) => mkLst (cutS xs lo hi) h
    | _ => none)
  | _ => none
def rSlF (K : PySem.W.Frag) : V → Option Int → Option Int → Hp → VK → Prop := fun x lo hi H Q => ∃ a xs, x = .ref a ∧ SqT K H a xs ∧
  (HT.sIx xs.length 0 lo = 0 ∧ HT.sIx xs.length xs.length hi = xs.length → Q (.ref a) H) ∧ (¬ (HT.sIx xs.length 0 lo = 0 ∧ HT.sIx xs.length xs.length hi = xs.length) → ∀ p o, o.dict = none → H p = none → Q (.ref p) (upd H p (.frz o (.tup (cutV xs lo hi)))))
section
variable {X : Cx} {C : Bd}
theorem sl_tupF : SlR X (rSlF X.K) := by
  intro pins s σ H x v vl vu lo hi sl Q I rx hs pl pu h
  obtain ⟨a, xs, rfl, hx, q1, q2⟩ := h
  cases rx
  obtain ⟨its, r, ht, hz⟩ := I.tuple hx
  have hlen : its.toArray.size = xs.length := by rw [List.size_toArray]; exact r.length.symm
  refine ⟨"tuple", _, PyProof.Rows.slot_tuple_getitem.lookup, ht.typeIs, ?_⟩
  by_cases hw : HT.sIx xs.length 0 lo = 0 ∧ HT.sIx xs.length xs.length hi = xs.length
  · exact L2.getItem_tuple_whole ht hs pl pu (by rw [hlen]; exact hw) ⟨.ref a, H, I, rfl, q1 hw⟩
  · refine HT.getItem_tuple_cut ht hs pl pu (by rw [hlen]; exact hw) ?_ (by rw [hlen]; exact hz)
    rw [hlen]
    refine ⟨.ref s.heap.objs.size, _, laidT I ((r.drop (HT.sIx xs.length 0 lo)).take (HT.sIx xs.length xs.length hi - HT.sIx xs.length 0 lo)) (Nat.le_trans (cutV_length xs lo hi) hz), rfl, q2 hw _ _ rfl (I.hok.fresh (Nat.le_refl _))⟩
def rSlAll (X : Cx) : V → Option Int → Option Int → Hp → VK → Prop := fun x lo hi H Q => rSlF X.K x lo hi H Q ∨ rSlL X.K x lo hi H Q
theorem sl_all : SlR X (rSlAll X) := SlR.or sl_tupF sl_list
theorem cut_ok {K : PySem.W.Frag} {ρ : List Addr} {H : Hp} {xs : List SV} {vs : List V} (r : VRs K ρ H xs vs) (lo hi : Option Int) : VRs K ρ H (cutS xs lo hi) (cutV vs lo hi) := by
  unfold cutS cutV
  rw [r.length]
  exact (r.drop _).take _
theorem slP_ok {ρ : List Addr} {h : VH} {H : Hp} {a : SV} {a' : V} {lo hi : Option Int} {Q : VK} (S : Sim C X.prog X.w X.K ρ h H) (ra : VR X.K ρ H a a') (k : tK C X.prog X.w X.K (slP a lo hi h) ρ H Q) : rSlAll X a' lo hi H Q := by
  obtain ⟨v, h', e, _⟩ := id k
  unfold slP at e
  split at e
  · rename_i xs
    cases ra with
    | @tup p _ vs ht rs =>
      refine .inl ⟨p, vs, rfl, ht.sq, fun hw => ?_, fun hw => ?_⟩
      · refine k.of (v := .tup xs) (h' := h) ?_ .refl S (.tup ht rs)
        unfold slP wholeS
        simp only []
        rw [rs.length, decide_eq_true hw.1, decide_eq_true hw.2]
        rfl
      · refine (mkTup_ok (Q := Q) S (cut_ok rs lo hi) ?_).2
        have e2 : slP (.tup xs) lo hi h = mkTup (cutS xs lo hi) h := by
          unfold slP
          simp only []
          have : wholeS xs.length lo hi = false := by
            unfold wholeS
            rw [rs.length]
            cases q : (decide (HT.sIx vs.length 0 lo = 0) && decide (HT.sIx vs.length vs.length hi = vs.length)) with
            | false => rfl
            | true =>
              have := Bool.and_eq_true_iff.mp q
              exact absurd ⟨of_decide_eq_true this.1, of_decide_eq_true this.2⟩ hw
          rw [this]
        rw [← e2]
        exact k
  · split at e
    · rename_i xs g
      cases ra with
      | loc ha =>
        obtain ⟨vs, hl, rs⟩ := S.lst g ha
        refine .inr ⟨_, vs, rfl, SqL.of hl, (mkLst_ok (Q := Q) S (cut_ok rs lo hi) ?_).2⟩
        unfold slP at k
        simp only [] at k
        rw [g] at k
        exact k
    · cases e
  · cases e
end
end Ev

/-! list(zip(xs, ys)) of two lists -/
namespace LZ
open PySem PySem.SeqAt PySem.W
theorem zip_no_len : typeLookup (.type "zip") "__len__" = pure none := by rw [typeLookup_type, builtinLookup_eq_fast]; kernel_rfl
theorem zip_no_hint : typeLookup (.type "zip") "__length_hint__" = pure none := by rw [typeLookup_type, builtinLookup_eq_fast]; kernel_rfl
/-- the tuples given out, all of them new behind g -/
structure Items (g : Heap) (zs : List Addr) (xs ys : Array Value) (i : Nat) (h : Heap) (acc : Array Value) : Prop where
  sz : acc.size = i
  it : ∀ j, j < i → ∃ T x y, acc[j]? = some (Value.ref T) ∧ g.objs.size ≤ T ∧ xs[j]? = some x ∧ ys[j]? = some y ∧ IsPair h T x y ∧ T ∉ zs
  ap : ∀ (j j' : Nat) (T : Addr), acc[j]? = some (Value.ref T) → acc[j']? = some (Value.ref T) → j = j'
  kp : ∀ b o, g.get? b = some o → h.get? b = some o
  nw : ∀ c ∈ zs, g.get? c = none
theorem Items.to {g : Heap} {zs : List Addr} {xs ys : Array Value} {i : Nat} {h h' : Heap} {acc : Array Value} (I : Items g zs xs ys i h acc) (k : ∀ c o, c ∉ zs → h.get? c = some o → h'.get? c = some o) : Items g zs xs ys i h' acc where
  sz := I.sz
  it := fun j hj => by
    obtain ⟨T, x, y, a, b, c, d, e, f⟩ := I.it j hj
    exact ⟨T, x, y, a, b, c, d, k T _ f e, f⟩
  ap := I.ap
  kp := fun b o e => k b o (fun m => by rw [I.nw b m] at e; cases e) (I.kp b o e)
  nw := I.nw
theorem Items.push {g : Heap} {zs : List Addr} {xs ys : Array Value} {i : Nat} {h h' : Heap} {acc : Array Value} {x y : Value} (I : Items g zs xs ys i h acc) (k : ∀ c o, c ∉ zs → h.get? c = some o → h'.get? c = some o)
    (gs : g.objs.size ≤ h.objs.size) (ex : xs[i]? = some x) (ey : ys[i]? = some y) (p : IsPair h' h.objs.size x y) (nz : h.objs.size ∉ zs) : Items g zs xs ys (i + 1) h' (acc.push (Value.ref h.objs.size)) where
  sz := by rw [Array.size_push, I.sz]
  it := fun j hj => by
    by_cases e : j = i
    · subst e
      exact ⟨_, x, y, by rw [← I.sz]; simp, gs, ex, ey, p, nz⟩
    · obtain ⟨T, x', y', a, b, c, d, e', f⟩ := I.it j (by omega)
      refine ⟨T, x', y', ?_, b, c, d, k T _ f e', f⟩
      rw [Array.getElem?_push, if_neg (by rw [I.sz]; exact e)]
      exact a
  ap := fun j j' T e1 e2 => by
    have lt : ∀ m, m < i → ∀ T, acc[m]? = some (Value.ref T) → T < h.objs.size := fun m hm T e => by
      obtain ⟨T', x', y', a, _, _, _, e', _⟩ := I.it m hm
      rw [e] at a
      cases a
      exact Heap.lt_size e'
    rw [Array.getElem?_push] at e1 e2
    have ls : ∀ m, acc[m]? = some (Value.ref T) → m < i := fun m e => by
      rw [← I.sz]
      exact (Array.getElem?_eq_some_iff.mp e).1
    split at e1
    · rename_i q1
      split at e2
      · rename_i q2
        omega
      · cases e1
        exact absurd (lt j' (ls j' e2) _ e2) (Nat.lt_irrefl _)
    · split at e2
      · cases e2
        exact absurd (lt j (ls j e1) _ e1) (Nat.lt_irrefl _)
      · exact I.ap j j' T e1 e2
  kp := fun b o e => k b o (fun m => by rw [I.nw b m] at e; cases e) (I.kp b o e)
  nw := I.nw
section
variable {prog : Program} {w : World} {A : Around} {E : Value → Shared → Prop} {s : Shared}
/-- the zip at a turn -/
structure St (g : Heap) (z TI TO i1 i2 l1 l2 : Addr) (xs ys : Array Value) (i : Nat) (h : Heap) (acc : Array Value) : Prop where
  hz : (i = 0 ∧ IsZip h z TI TO .none ∧ ∃ a b, IsPair h TO a b) ∨ ∃ T f a b, IsZipHeld h z TI TO T f ∧ IsPair h T a b ∧ T ∉ [z, TO, i1, i2]
  ti : IsPair h TI (Value.ref i1) (Value.ref i2)
  h1 : h.IsListIter i1 l1 i
  h2 : h.IsListIter i2 l2 i
  p1 : h.IsList l1 xs
  p2 : h.IsList l2 ys
  sz : TO < h.objs.size
  gs : g.objs.size ≤ h.objs.size
  it : Items g [z, TO, i1, i2] xs ys i h acc
theorem ext_loop {z TI TO i1 i2 l1 l2 S : Addr} {xs ys : Array Value} {g : Heap} {n : Nat} {R : Result → Shared → Prop} (hh : A.handled = none) (D : ZipApart z TI TO i1 i2 l1 l2) (hn : n = min xs.size ys.size) (hz : n ≤ sizeLine)
    (hS : S ≠ z ∧ S ≠ TI ∧ S ≠ TO ∧ S ≠ i1 ∧ S ≠ i2 ∧ S ≠ l1 ∧ S ≠ l2) (gS : g.get? S = none) (res : Value) :
    ∀ (k i : Nat) (s : Shared) (acc : Array Value) (c : Nat), n - i = k → i ≤ n → St g z TI TO i1 i2 l1 l2 xs ys i s.heap acc → (∀ j : Nat, acc[j]? ≠ some (Value.ref S)) → s.heap.get? S = some { cls := .type "list", dict := none, data := .seq acc c, slots := #[] } →
    (∀ h' acc' c', Items g [z, TO, i1, i2] xs ys n h' acc' → (∀ j : Nat, acc'[j]? ≠ some (Value.ref S)) → h'.get? S = some { cls := .type "list", dict := none, data := .seq acc' c', slots := #[] } → R (.ok (.ret res)) { s with heap := h' }) →
    codeAny (model prog w) A (.builtin "list.extend.loop" ⟨[.ref S, .ref z, res], []⟩) R s := by
  obtain ⟨s1, s2, s3, s4, s5, s6, s7⟩ := hS
  have nSz : S ∉ [z, TO, i1, i2] := by simp [s1, s3, s4, s5]
  intro k
  induction k with
  | zero =>
    intro i s acc c hk hi st nS hS hR
    have hin : i = n := by omega
    subst hin
    refine codeAny_builtin F.entry_extend_loop ?_
    rw [Around.under_plainId F.plain_extend_loop _]
    show wpAny _ A.in1 (pyNext (.ref z) >>= _) _ _ s
    have hend : xs[i]? = none ∨ ys[i]? = none := by
      rcases Nat.le_total xs.size ys.size with h | h
      · exact .inl (Array.getElem?_eq_none (by rw [hn, Nat.min_eq_left h]; exact Nat.le_refl _))
      · exact .inr (Array.getElem?_eq_none (by rw [hn, Nat.min_eq_right h]; exact Nat.le_refl _))
    have fin : ∀ h', (∀ c o, c ∉ [z, TO, i1, i2] → s.heap.get? c = some o → h'.get? c = some o) → R (.ok (.ret res)) { s with heap := h' } := fun h' kk =>
      hR h' acc c (st.it.to kk) nS (kk S _ nSz hS)
    rcases st.hz with ⟨_, hz1, a, b, hTO⟩ | ⟨T, f, oa, ob, hz1, hT, _⟩
    · refine wpAny_bind (wpAny_pyNext_zip_end hh D hz1 st.ti hTO st.h1 st.h2 st.p1 st.p2 hend fun h' kk => ?_)
      exact wpAny_pure (fin h' fun c o hc e => kk c o (fun q => hc (by simp [q])) (fun q => hc (by simp [q])) (fun q => hc (by simp [q])) (fun q => hc (by simp [q])) e)
    · refine wpAny_bind (wpAny_pyNext_zip_end_held hh D hz1 hT st.ti st.h1 st.h2 st.p1 st.p2 hend fun h' kk => ?_)
      exact wpAny_pure (fin h' fun c o hc e => kk c o (fun q => hc (by simp [q])) (fun q => hc (by simp [q])) (fun q => hc (by simp [q])) e)
  | succ k ih =>
    intro i s acc c hk hi st nS hS hR
    have hlt : i < n := by omega
    have hix : i < xs.size := by rw [hn] at hlt; exact Nat.lt_of_lt_of_le hlt (Nat.min_le_left ..)
    have hiy : i < ys.size := by rw [hn] at hlt; exact Nat.lt_of_lt_of_le hlt (Nat.min_le_right ..)
    refine codeAny_builtin F.entry_extend_loop ?_
    rw [Around.under_plainId F.plain_extend_loop _]
    show wpAny _ A.in1 (pyNext (.ref z) >>= _) _ _ s
    -- one step, behind the draw
    have zlt : z < s.heap.objs.size := by
      rcases st.hz with ⟨_, hz1, _⟩ | ⟨T, f, oa, ob, hz1, hT, _⟩
      · exact Heap.lt_size hz1
      · exact Heap.lt_size hz1
    have i1lt : i1 < s.heap.objs.size := by obtain ⟨o, e, _⟩ := st.h1; exact Heap.lt_size e
    have i2lt : i2 < s.heap.objs.size := by obtain ⟨o, e, _⟩ := st.h2; exact Heap.lt_size e
    have Slt : S < s.heap.objs.size := Heap.lt_size hS
    have nT : s.heap.objs.size ∉ [z, TO, i1, i2] := by
      have := st.sz
      simp only [List.mem_cons, List.not_mem_nil, or_false, not_or]
      exact ⟨Nat.ne_of_gt zlt, Nat.ne_of_gt this, Nat.ne_of_gt i1lt, Nat.ne_of_gt i2lt⟩
    have go : ∀ h' f T0 a0 b0, IsZipHeld h' z TI TO T0 f → IsPair h' T0 a0 b0 → T0 ∉ [z, TO, i1, i2] → h'.IsListIter i1 l1 (i + 1) → h'.IsListIter i2 l2 (i + 1) → IsPair h' s.heap.objs.size xs[i] ys[i] → h'.objs.size = s.heap.objs.size + 1 →
        (∀ c o, c ∉ [z, TO, i1, i2] → s.heap.get? c = some o → h'.get? c = some o) →
        wpAny (model prog w) A.in1 (updateSeq S (·.push (Value.ref s.heap.objs.size)) >>= fun _ => (again (.builtin "list.extend.loop" ⟨[.ref S, .ref z, res], []⟩) : Sem PySem.Fin))
          (fun fin s' => match fin with | .done f => R (.ok f) s' | .again c' => c'.quiet = true ∧ codeAny (model prog w) A c' R s') (fun e s' => R (.error e) s') { s with heap := h' } := by
      intro h' f T0 a0 b0 a1 p0 n0 a2 a3 a4 a5 kk
      have hS' := kk S _ nSz hS
      have upS : ∀ c o, c ≠ S → h'.get? c = some o → (h'.update S (Obj.mapSeq (·.push (Value.ref s.heap.objs.size)))).get? c = some o := fun c o hc e => (Heap.get?_update_other _ _ (Ne.symm hc)).trans e
      have TS : s.heap.objs.size ≠ S := Nat.ne_of_gt Slt
      have it1 := st.it.push kk st.gs (Array.getElem?_eq_getElem hix) (Array.getElem?_eq_getElem hiy) a4 nT
      have nS' : ∀ j : Nat, (acc.push (Value.ref s.heap.objs.size))[j]? ≠ some (Value.ref S) := fun j e => by
        rw [Array.getElem?_push] at e
        split at e
        · cases e
          exact TS rfl
        · exact nS j e
      -- the pushed list keeps the tuples
      have it2 : Items g [z, TO, i1, i2] xs ys (i + 1) (h'.update S (Obj.mapSeq (·.push (Value.ref s.heap.objs.size)))) (acc.push (Value.ref s.heap.objs.size)) := by
        refine ⟨it1.sz, fun j hj => ?_, it1.ap, fun b o e => ?_, it1.nw⟩
        · obtain ⟨T, x, y, b1, b2, b3, b4, b5, b6⟩ := it1.it j hj
          exact ⟨T, x, y, b1, b2, b3, b4, upS T _ (fun q => nS' j (by rw [b1, q])) b5, b6⟩
        · exact upS b o (fun q => by rw [q, gS] at e; cases e) (it1.kp b o e)
      refine wpAny_bind ?_
      refine wpAny_updateSeq hS' rfl (wpAny_pure ⟨plainId_quiet F.plain_extend_loop _, ih (i + 1) { s with heap := _ } (acc.push (Value.ref s.heap.objs.size)) _ (by omega) hlt ?_ nS' (Heap.get?_update_self _ hS' rfl) fun h'' acc' c' it'' nS'' hS'' => ?_⟩)
        (by rw [st.it.sz]; omega) (by show (acc.push _).size ≤ sizeLine + 1; rw [Array.size_push, st.it.sz]; omega)
      · refine ⟨.inr ⟨T0, f, a0, b0, upS _ _ (Ne.symm s1) a1, upS _ _ (fun q => by rw [q] at p0; rw [show h'.get? S = _ from p0] at hS'; simp at hS') p0, n0⟩, upS _ _ (Ne.symm s2) (kk TI _ (by simp [D.TIz, D.TITO, D.TIi1, D.TIi2]) st.ti), a2.at fun o e => upS _ o (Ne.symm s4) e, a3.at fun o e => upS _ o (Ne.symm s5) e, ?_, ?_, ?_, ?_, it2⟩
        · exact st.p1.at fun o e => upS _ o (Ne.symm s6) (kk l1 o (by simp [D.l1z, D.l1TO, D.l1i1, D.l1i2]) e)
        · exact st.p2.at fun o e => upS _ o (Ne.symm s7) (kk l2 o (by simp [D.l2z, D.l2TO, D.l2i1, D.l2i2]) e)
        · show TO < (h'.update S _).objs.size
          rw [Heap.size_update, a5]
          exact Nat.lt_succ_of_lt st.sz
        · show g.objs.size ≤ (h'.update S _).objs.size
          rw [Heap.size_update, a5]
          exact Nat.le_succ_of_le st.gs
      · exact hR h'' acc' c' it'' nS'' hS''
    rcases st.hz with ⟨_, hz1, a, b, hTO⟩ | ⟨T, f, oa, ob, hz1, hT, hTn⟩
    · refine wpAny_bind (wpAny_pyNext_zip_item D hz1 st.ti hTO st.h1 st.h2 st.p1 st.p2 (Array.getElem?_eq_getElem hix) (Array.getElem?_eq_getElem hiy) fun h' a1 a2 a3 a4 a5 a6 kk => ?_)
      exact go h' false _ _ _ a1 a5 nT a3 a4 a5 a6 fun c o hc e => kk c o (fun q => hc (by simp [q])) (fun q => hc (by simp [q])) (fun q => hc (by simp [q])) (fun q => hc (by simp [q])) e
    · refine wpAny_bind (wpAny_pyNext_zip_item_held D hz1 hT st.ti st.h1 st.h2 st.p1 st.p2 (Array.getElem?_eq_getElem hix) (Array.getElem?_eq_getElem hiy) fun h' a1 a3 a4 a5 a6 kk => ?_)
      exact go h' _ T oa ob a1 (kk T _ (fun q => hTn (by simp [q])) (fun q => hTn (by simp [q])) (fun q => hTn (by simp [q])) hT) hTn a3 a4 a5 a6 fun c o hc e => kk c o (fun q => hc (by simp [q])) (fun q => hc (by simp [q])) (fun q => hc (by simp [q])) e

theorem zip_extend {z TI TO i1 i2 l1 l2 S : Addr} {xs ys : Array Value} {g : Heap} {n : Nat} {R : Result → Shared → Prop} {a b : Value} {c₀ : Nat} (hh : A.handled = none) (D : ZipApart z TI TO i1 i2 l1 l2) (hn : n = min xs.size ys.size) (hz : n ≤ sizeLine)
    (hz1 : IsZip s.heap z TI TO .none) (hTI : IsPair s.heap TI (.ref i1) (.ref i2)) (hTO : IsPair s.heap TO a b) (h1 : s.heap.IsListIter i1 l1 0) (h2 : s.heap.IsListIter i2 l2 0) (p1 : s.heap.IsList l1 xs) (p2 : s.heap.IsList l2 ys)
    (gs : g.objs.size ≤ s.heap.objs.size) (kp : ∀ b o, g.get? b = some o → s.heap.get? b = some o) (nw : ∀ c ∈ [z, TO, i1, i2], g.get? c = none)
    (hS : s.heap.get? S = some { cls := .type "list", data := .seq #[] c₀ }) (gS : g.get? S = none) (nS : S ≠ z ∧ S ≠ TI ∧ S ≠ TO ∧ S ≠ i1 ∧ S ≠ i2 ∧ S ≠ l1 ∧ S ≠ l2)
    (hR : ∀ h' acc' c', Items g [z, TO, i1, i2] xs ys n h' acc' → (∀ j : Nat, acc'[j]? ≠ some (Value.ref S)) → h'.get? S = some { cls := .type "list", dict := none, data := .seq acc' c', slots := #[] } → R (.ok (.ret .none)) { s with heap := h' }) :
    wpAny (model prog w) A.in1 (Builtin.List.listExtendWith (.ref S) (.ref z) .none)
      (fun fin s' => match fin with | .done f => R (.ok f) s' | .again c' => c'.quiet = true ∧ codeAny (model prog w) A c' R s') (fun e s' => R (.error e) s') s := by
  unfold Builtin.List.listExtendWith
  refine wpAny_bind (wpAny_typeOf (T := "zip") ⟨_, hz1, rfl⟩ ?_)
  have h0 : Builtin.List.listSameRef (.ref S) (.ref z) = false := by simp [Builtin.List.listSameRef, nS.1]
  have e1 : (Value.type "zip" == Value.type "list") = false := by decide
  have e2 : (Value.type "zip" == Value.type "tuple") = false := by decide
  simp only [h0, e1, e2, Bool.or_false, Bool.false_eq_true, if_false]
  refine wpAny_bind (wpAny_pyIter_zip hz1 ?_)
  refine wpAny_bind (wpAny_holding ?_)
  unfold Builtin.List.listLengthHint
  refine wpAny_bind (wpAny_specialOf (T := "zip") ⟨_, hz1, rfl⟩ zip_no_len ?_)
  show wpAny _ _ (specialOf (Value.ref z) (Str.ofString "__length_hint__") >>= _) _ _ _
  refine wpAny_bind (wpAny_specialOf (T := "zip") ⟨_, hz1, rfl⟩ zip_no_hint ?_)
  refine wpAny_pure ?_
  show wpAny _ _ (rule "list.extend.makes-room" >>= fun _ => Builtin.List.listTouch (.ref S) >>= fun _ =>
    again (.builtin "list.extend.loop" ⟨[.ref S, .ref z, .none], []⟩)) _ _ _
  refine wpAny_bind (wpAny_rule ?_)
  refine wpAny_bind ?_
  show wpAny _ _ (updateSeq S (·.push .none) >>= fun _ => updateSeq S (·.pop)) _ _ _
  refine wpAny_bind (wpAny_updateSeq hS rfl ?_)
  have hS₂ := Heap.get?_update_self (Obj.mapSeq (·.push Value.none)) hS rfl
  refine wpAny_updateSeq (hz := by seq_fits) hS₂ rfl ?_
  have hS₃ := Heap.get?_update_self (Obj.mapSeq (·.pop)) hS₂ rfl
  have up : ∀ c o, c ≠ S → s.heap.get? c = some o → ((s.heap.update S (Obj.mapSeq (·.push Value.none))).update S (Obj.mapSeq (·.pop))).get? c = some o := fun c o hc e =>
    (Heap.get?_update_other _ _ (Ne.symm hc)).trans ((Heap.get?_update_other _ _ (Ne.symm hc)).trans e)
  have szs : ((s.heap.update S (Obj.mapSeq (·.push Value.none))).update S (Obj.mapSeq (·.pop))).objs.size = s.heap.objs.size := by rw [Heap.size_update, Heap.size_update]
  generalize ((s.heap.update S (Obj.mapSeq (·.push Value.none))).update S (Obj.mapSeq (·.pop))) = h4 at up szs hS₃ ⊢
  have st : St g z TI TO i1 i2 l1 l2 xs ys 0 h4 #[] :=
    ⟨.inl ⟨rfl, up _ _ (Ne.symm nS.1) hz1, a, b, up _ _ (Ne.symm nS.2.2.1) hTO⟩, up _ _ (Ne.symm nS.2.1) hTI, h1.at fun o e => up _ o (Ne.symm nS.2.2.2.1) e, h2.at fun o e => up _ o (Ne.symm nS.2.2.2.2.1) e,
      p1.at fun o e => up _ o (Ne.symm nS.2.2.2.2.2.1) e, p2.at fun o e => up _ o (Ne.symm nS.2.2.2.2.2.2) e, by rw [szs]; exact Heap.lt_size hTO, by rw [szs]; exact gs,
      ⟨rfl, fun j hj => absurd hj (Nat.not_lt_zero _), fun j j' T e => by simp at e, fun b o e => up _ _ (fun q => by rw [q, gS] at e; cases e) (kp b o e), nw⟩⟩
  exact wpAny_pure ⟨plainId_quiet PySem.F.plain_extend_loop _, ext_loop (g := g) hh D hn hz nS gS .none n 0 { s with heap := h4 } #[] _ (Nat.sub_zero _) (Nat.zero_le _) st (fun j e => by simp at e) hS₃ hR⟩
/-- list(z) of a zip just made -/
theorem call_list_zip {z TI TO i1 i2 l1 l2 : Addr} {xs ys : Array Value} {g : Heap} {n : Nat} {Q : Value → Shared → Prop} {a b : Value} (hh : A.handled = none) (D : ZipApart z TI TO i1 i2 l1 l2) (hn : n = min xs.size ys.size) (hz : n ≤ sizeLine)
    (hz1 : IsZip s.heap z TI TO .none) (hTI : IsPair s.heap TI (.ref i1) (.ref i2)) (hTO : IsPair s.heap TO a b) (h1 : s.heap.IsListIter i1 l1 0) (h2 : s.heap.IsListIter i2 l2 0) (p1 : s.heap.IsList l1 xs) (p2 : s.heap.IsList l2 ys)
    (gs : g.objs.size ≤ s.heap.objs.size) (kp : ∀ b o, g.get? b = some o → s.heap.get? b = some o) (nw : ∀ c ∈ [z, TO, i1, i2], g.get? c = none)
    (hQ : ∀ h' S acc' c', Items g [z, TO, i1, i2] xs ys n h' acc' → (∀ j : Nat, acc'[j]? ≠ some (Value.ref S)) → g.objs.size ≤ S → h'.get? S = some { cls := .type "list", dict := none, data := .seq acc' c', slots := #[] } → Q (.ref S) { s with heap := h' }) :
    wpAny (model prog w) A (call (.type "list") [.ref z]) Q E s := by
  have zlt : z < s.heap.objs.size := Heap.lt_size hz1
  have tilt : TI < s.heap.objs.size := Heap.lt_size hTI
  have tolt : TO < s.heap.objs.size := Heap.lt_size hTO
  have i1lt : i1 < s.heap.objs.size := by obtain ⟨o, e, _⟩ := h1; exact Heap.lt_size e
  have i2lt : i2 < s.heap.objs.size := by obtain ⟨o, e, _⟩ := h2; exact Heap.lt_size e
  have l1lt : l1 < s.heap.objs.size := by obtain ⟨o, e, _⟩ := p1; exact Heap.lt_size e
  have l2lt : l2 < s.heap.objs.size := by obtain ⟨o, e, _⟩ := p2; exact Heap.lt_size e
  refine callType_codes (Q₁ := fun obj s₁ => obj = .ref s.heap.objs.size ∧ s₁ = { s with heap := s.heap.push { cls := .type "list", data := .seq #[] } }) PySem.F.called_list (PySem.F.typeCall_list_1 _) PySem.F.entry_list_init
    (code_list_new _ ⟨rfl, rfl⟩) fun obj s₁ h₁ => ?_
  obtain ⟨rfl, rfl⟩ := h₁
  have hS : (s.heap.push { cls := .type "list", data := .seq #[] }).get? s.heap.objs.size = some { cls := .type "list", data := .seq #[] } := Heap.get?_push_size _ rfl
  refine ⟨⟨_, hS, rfl⟩, PySem.F.args_list_init_2 _ _, ?_⟩
  show wpAny _ _ (do let old ← Builtin.List.listItems (.ref s.heap.objs.size); Builtin.List.listUpdate (.ref s.heap.objs.size) (fun _ => #[]); letGo old.toList.reverse; Builtin.List.listExtendWith (.ref s.heap.objs.size) (.ref z) .none) _ _ _
  refine wpAny_bind ?_
  unfold Builtin.List.listItems
  refine wpAny_bind (wpAny_seqItems hS rfl (wpAny_pure ?_))
  show wpAny _ _ (updateSeq s.heap.objs.size (fun _ => #[]) >>= fun _ => letGo (#[] : Array Value).toList.reverse >>= fun _ => Builtin.List.listExtendWith (.ref s.heap.objs.size) (.ref z) .none) _ _ _
  refine wpAny_bind (wpAny_updateSeq hS rfl ?_)
  have hS₂ := Heap.get?_update_self (Obj.mapSeq (fun _ => (#[] : Array Value))) hS rfl
  have up : ∀ c o, s.heap.get? c = some o → ((s.heap.push { cls := .type "list", data := .seq #[] }).update s.heap.objs.size (Obj.mapSeq fun _ => (#[] : Array Value))).get? c = some o := fun c o e =>
    (Heap.get?_update_other _ _ (Nat.ne_of_gt (Heap.lt_size e))).trans (Heap.get?_push_of_some _ e)
  have szs : ((s.heap.push { cls := .type "list", data := .seq #[] }).update s.heap.objs.size (Obj.mapSeq fun _ => (#[] : Array Value))).objs.size = s.heap.objs.size + 1 := by rw [Heap.size_update, Heap.size_push]
  refine wpAny_bind (wpAny_letGo ?_)
  generalize ((s.heap.push { cls := .type "list", data := .seq #[] }).update s.heap.objs.size (Obj.mapSeq fun _ => (#[] : Array Value))) = h4 at up szs hS₂ ⊢
  refine zip_extend (g := g) (s := { s with heap := h4 }) hh D hn hz (up _ _ hz1) (up _ _ hTI) (up _ _ hTO) (h1.at fun o e => up _ o e) (h2.at fun o e => up _ o e) (p1.at fun o e => up _ o e) (p2.at fun o e => up _ o e)
    (by show g.objs.size ≤ h4.objs.size; rw [szs]; exact Nat.le_succ_of_le gs) (fun b o e => up _ _ (kp b o e)) nw hS₂ (Heap.get?_none_of_le gs) ⟨Nat.ne_of_gt zlt, Nat.ne_of_gt tilt, Nat.ne_of_gt tolt, Nat.ne_of_gt i1lt, Nat.ne_of_gt i2lt, Nat.ne_of_gt l1lt, Nat.ne_of_gt l2lt⟩ fun h' acc' c' it nS hS' => ?_
  exact ⟨rfl, hQ h' s.heap.objs.size acc' c' it nS gs hS'⟩
end
end LZ

namespace Ev
open PySem L2 PySem.Spec PyProof.Rows

/-! ## a built-in type called with a zip -/
def ZipR (X : Cx) (T : String) (r : List V → Hp → VK → Prop) : Prop :=
  ∀ (pins : List (Addr × Obj)) (s : Shared) (σ : L2.St) (H : Hp) (vs : List V) (us : List Value) (Q : VK), Inv X pins σ H s → Vals vs us → r vs H Q →
    wpAny (model X.prog X.w) X.A (call (.type "zip") us) (fun v s' => wpAny (model X.prog X.w) X.A (call (.type T) [v]) (EP X pins σ Q) X.xe s') X.xe s
theorem pe_ofZip {X : Cx} {T : String} {r : List V → Hp → VK → Prop} {x : Str} {e1 e2 : Expr} {t : TA} {p1 p2 p3 p4 : Pos} (hr : ZipR X T r) (hg : Gl X x) (hm : X.mg x = none) (hv : bootBuiltins x = some (.type T)) (hgz : Gl X "zip") (hmz : X.mg "zip" = none) (ha : PA X [e1, e2] t)
    (hn : x ≠ "__name__" := by decide) (hdb : (x == ("__debug__" : Str)) = false := by decide)
    (hs : starEach [e1, e2] X.env = (false, eval e1 X.env) :: starEach [e2] X.env := by rfl) (hpl : (backTo p3 (starEach [e2] X.env)).any (·.1) = false := by rfl)
    (na : starEach [.Call (.Name "zip" p2) [e1, e2] [] p3] X.env = (false, eval (.Call (.Name "zip" p2) [e1, e2] [] p3) X.env) :: starEach [] X.env := by rfl) :
    PE X (.Call (.Name x p1) [.Call (.Name "zip" p2) [e1, e2] [] p3] [] p4) (tCB r t) := by
  refine ⟨fun pins s σ H Q I h => ?_⟩
  refine wpAny_Call_Name_kw (ld_blt I hg hm hv ?_ hn hdb)
  refine PyProof.Rows.callWith_type1 (args_cons (Call_ (ld_blt I hgz hmz PyProof.Rows.boot_zip (PyProof.Rows.callWith_type1 (thn (ha.run p3 pins s σ H _ I h) fun us s1 ⟨vs, H1, I1, r1, q1⟩ => ?_) hs hpl))) na) na rfl
  exact wpAny_mono (hr pins s1 σ H1 vs us Q I1 r1 q1) (fun v s' h' => args_nil h') fun _ _ e => e

/-! ## many new tuples at once -/
def layT (H : Hp) : List (Addr × Obj × List V) → Hp
  | [] => H
  | (a, o, vs) :: r => layT (upd H a (.frz o (.tup vs))) r
theorem layT_ne : ∀ (ts : List (Addr × Obj × List V)) {H : Hp} {b : Addr}, b ∉ ts.map (·.1) → layT H ts b = H b
  | [], _, _, _ => rfl
  | (a, o, vs) :: r, H, b, h => by
    have h := h
    rw [List.map_cons, List.mem_cons, not_or] at h
    show layT (upd H a (.frz o (.tup vs))) r b = H b
    rw [layT_ne r h.2, upd_ne h.1]
theorem layT_at : ∀ (ts : List (Addr × Obj × List V)) (H : Hp) (t : Addr × Obj × List V), (ts.map (·.1)).Nodup → t ∈ ts → layT H ts t.1 = some (.frz t.2.1 (.tup t.2.2))
  | [], _, _, _, hm => by cases hm
  | u :: r, H, t, hn, hm => by
    have hn' : u.1 ∉ r.map (·.1) ∧ (r.map (·.1)).Nodup := List.nodup_cons.mp hn
    have e : layT H (u :: r) t.1 = layT (upd H u.1 (.frz u.2.1 (.tup u.2.2))) r t.1 := rfl
    rw [e]
    rcases List.mem_cons.mp hm with q | hm
    · rw [q, layT_ne r hn'.1, upd_same]
    · exact layT_at r _ t hn'.2 hm
theorem Inv.layT {X : Cx} {pins : List (Addr × Obj)} {σ : L2.St} {H : Hp} {s : Shared} {h' : Heap} {t' : Nat} {ts : List (Addr × Obj × List V)} (I : Inv X pins σ H s) (k : ∀ b o, s.heap.get? b = some o → h'.get? b = some o) (hn : (ts.map (·.1)).Nodup)
    (hp : ∀ t ∈ ts, s.heap.objs.size ≤ t.1) (ho : ∀ t ∈ ts, ObjOk X.prog X.w (layT H ts) h' t.1 (.frz t.2.1 (.tup t.2.2))) : Inv X pins σ (layT H ts) { s with heap := h', toks := t' } := by
  have old : ∀ b, b < s.heap.objs.size → Ev.layT H ts b = H b := fun b hb => layT_ne ts fun m => by
    obtain ⟨t, ht, e⟩ := List.mem_map.mp m
    have := hp t ht
    rw [e] at this
    exact absurd hb (Nat.not_lt.mpr this)
  have frs : ∀ b o, H b = some o → b < s.heap.objs.size := fun b o e => ObjOk.lt (I.hok b o e)
  refine I.un (h' := h') (t' := t') ⟨fun b o q _ _ _ => k b o q, fun b o q _ _ _ => ⟨o.slots, k b o q⟩, fun b o q n _ => by rw [old b (Heap.lt_size q)]; exact n, fun b o q _ => ⟨o, k b o q⟩, fun b xs q => by rw [old b (frs b _ q)]; exact q, fun b o u q => by rw [old b (frs b _ q)]; exact q, fun b ps q => ⟨#[], by rw [old b (frs b _ q), q]; simp⟩⟩ ?_
  intro b o e
  by_cases hb : b ∈ ts.map (·.1)
  · obtain ⟨t, ht, rfl⟩ := List.mem_map.mp hb
    rw [layT_at ts H t hn ht] at e
    cases e
    exact ho t ht
  · rw [layT_ne ts hb] at e
    have hk : HOk X.prog X.w H h' := (I.kept (t' := t') k).hok
    -- the objects' contents don't change
    have ext : ∀ c o', H c = some o' → Ev.layT H ts c = some o' := fun c o' e' => by rw [old c (frs c _ e')]; exact e'
    exact ObjOk.stay (hk b o e) (fun _ _ _ e => e) (fun c q => ext c _ q) (fun c xs q => ext c _ q)
end Ev

namespace Ev
open PySem L2 PySem.Spec PyProof.Rows

/-! ## list(zip(xs, ys)) -/
theorem pairs_build {P : Program} {w : World} {h : Heap} {g : Nat} : ∀ (acc : List Value) (xs ys : List V) (us ws : List Value), Vals xs us → Vals ys ws → acc.length = min us.length ws.length →
    (∀ j, j < acc.length → ∃ T x y, acc[j]? = some (Value.ref T) ∧ g ≤ T ∧ us[j]? = some x ∧ ws[j]? = some y ∧ IsPair h T x y) →
    ∃ ts : List (Addr × Obj × List V), ts.map (fun t => Value.ref t.1) = acc ∧ ts.map (·.2.2) = List.zipWith (fun x y => [x, y]) xs ys ∧ ∀ t ∈ ts, g ≤ t.1 ∧ t.2.1.dict = none ∧ ∀ H : Hp, ObjOk P w H h t.1 (.frz t.2.1 (.tup t.2.2))
  | [], xs, ys, us, ws, rx, ry, hl, _ => by
    refine ⟨[], rfl, ?_, fun t ht => by cases ht⟩
    have : min xs.length ys.length = 0 := by rw [rx.length, ry.length]; simpa using hl.symm
    cases xs with
    | nil => rfl
    | cons x xs => cases ys with
      | nil => rfl
      | cons y ys => simp at this
  | a :: acc, xs, ys, us, ws, rx, ry, hl, hp => by
    obtain ⟨T, x, y, e1, e2, e3, e4, e5⟩ := hp 0 (by simp)
    cases rx with
    | nil => simp at e3
    | @cons vx ux xs us rvx rx =>
      cases ry with
      | nil => simp at e4
      | @cons vy uy ys ws rvy ry =>
        simp at e1 e3 e4
        subst e1 e3 e4
        obtain ⟨ts, q1, q2, q3⟩ := pairs_build (P := P) (w := w) acc xs ys us ws rx ry (by simp at hl; omega) (fun j hj => by
          obtain ⟨T', x', y', f1, f2, f3, f4, f5⟩ := hp (j + 1) (by simpa using hj)
          exact ⟨T', x', y', by simpa using f1, f2, by simpa using f3, by simpa using f4, f5⟩)
        refine ⟨(T, { cls := .type "tuple", data := .seq #[ux, uy] }, [vx, vy]) :: ts, by simp [q1], by simp [q2], fun t ht => ?_⟩
        rcases List.mem_cons.mp ht with rfl | ht
        · exact ⟨e2, rfl, fun H => ⟨e5, (by rw [sizeLine_eq]; show 2 ≤ 16777216; decide), [ux, uy], .cons rvx (.cons rvy .nil), ⟨_, e5, rfl, 0, rfl⟩⟩⟩
        · exact q3 t ht
def rLZ (K : PySem.W.Frag) : List V → Hp → VK → Prop := fun us H Q => ∃ a b xs ys, us = [.ref a, .ref b] ∧ SqL K H a xs ∧ SqL K H b ys ∧
  ∀ (ts : List (Addr × Obj × List V)) (l : Addr), ts.map (·.2.2) = List.zipWith (fun x y => [x, y]) xs ys → (∀ t ∈ ts, t.2.1.dict = none ∧ H t.1 = none) → (ts.map (·.1)).Nodup → l ∉ ts.map (·.1) → H l = none →
    Q (.ref l) (upd (layT H ts) l (.lst (ts.map fun t => .ref t.1)))
theorem vals_refs : ∀ (ts : List (Addr × Obj × List V)), Vals (ts.map fun t => V.ref t.1) (ts.map fun t => Value.ref t.1)
  | [] => .nil
  | _ :: ts => .cons rfl (vals_refs ts)
theorem zipR_list {X : Cx} (hc : X.calm = true) : ZipR X "list" (rLZ X.K) := by
  intro pins s σ H vs us Q I ru h
  obtain ⟨a, b, xs, ys, rfl, ha, hb, q⟩ := h
  obtain ⟨u1, u2, rfl, e1, e2⟩ := vals2 ru
  cases e1
  cases e2
  obtain ⟨its, rx, p1, z1⟩ := I.list ha
  obtain ⟨its2, ry, p2, z2⟩ := I.list hb
  refine call_zip_2 p1.isList p2.isList fun h' hz hTI hTO h1 h2 hsz hk => ?_
  have lt : ∀ {c o}, s.heap.get? c = some o → c < s.heap.objs.size := fun e => Heap.lt_size e
  have lt1 := p1.lt
  have lt2 := p2.lt
  have D : ZipApart (s.heap.objs.size + 4) (s.heap.objs.size + 2) (s.heap.objs.size + 3) s.heap.objs.size (s.heap.objs.size + 1) a b := PySem.W.ktu_apart s.heap.objs.size a b lt1 lt2
  refine LZ.call_list_zip (g := s.heap) (n := min its.toArray.size its2.toArray.size) (s := { s with heap := h' }) (I.ok.hd hc) D rfl ?_ hz hTI hTO h1 h2 (p1.isList.at fun o e => hk _ o e) (p2.isList.at fun o e => hk _ o e) (by show _ ≤ h'.objs.size; rw [hsz]; omega) hk (fun c hcm => ?_) fun h2' S acc c' it nS gS hS => ?_
  · have := rx.length
    simp only [List.size_toArray]
    omega
  · refine Heap.get?_none_of_le ?_
    simp only [List.mem_cons, List.not_mem_nil, or_false] at hcm
    rcases hcm with rfl | rfl | rfl | rfl <;> omega
  obtain ⟨ts, t1, t2, t3⟩ := pairs_build (P := X.prog) (w := X.w) (h := h2') (g := s.heap.objs.size) acc.toList xs ys its its2 rx ry (by have := it.sz; simp only [List.size_toArray] at this; simpa using this) (fun j hj => by
    obtain ⟨T, x, y, a1, a2, a3, a4, a5, _⟩ := it.it j (by have := it.sz; simp at hj; omega)
    exact ⟨T, x, y, by simpa using a1, a2, by simpa using a3, by simpa using a4, a5⟩)
  have inj : ∀ (j j' : Nat) (T : Addr), (ts.map (·.1))[j]? = some T → (ts.map (·.1))[j']? = some T → j = j' := fun j j' T f1 f2 => by
    refine it.ap j j' T ?_ ?_
    · rw [← Array.getElem?_toList, ← t1]
      rw [List.getElem?_map] at f1 ⊢
      cases e : ts[j]? with
      | none => rw [e] at f1; cases f1
      | some t => rw [e] at f1; cases f1; rfl
    · rw [← Array.getElem?_toList, ← t1]
      rw [List.getElem?_map] at f2 ⊢
      cases e : ts[j']? with
      | none => rw [e] at f2; cases f2
      | some t => rw [e] at f2; cases f2; rfl
  have nd : (ts.map (·.1)).Nodup := by
    refine List.pairwise_iff_getElem.mpr fun j j' h1 h2 hlt e => ?_
    have := inj j j' _ (List.getElem?_eq_getElem h1) (by rw [e]; exact List.getElem?_eq_getElem h2)
    omega
  have nl : S ∉ ts.map (·.1) := fun m => by
    obtain ⟨t, ht, e⟩ := List.mem_map.mp m
    have hm : Value.ref S ∈ acc.toList := by rw [← t1, ← e]; exact List.mem_map_of_mem (f := fun t : Addr × Obj × List V => Value.ref t.1) ht
    obtain ⟨j, hj⟩ := List.getElem?_of_mem hm
    exact nS j (by simpa using hj)
  have I2 : Inv X pins σ (layT H ts) { s with heap := h2', toks := s.toks } := Inv.layT I it.kp nd (fun t ht => (t3 t ht).1) fun t ht => (t3 t ht).2.2 _
  have fr : ∀ t ∈ ts, t.2.1.dict = none ∧ H t.1 = none := fun t ht => ⟨(t3 t ht).2.1, I.hok.fresh (t3 t ht).1⟩
  have hl : H S = none := I.hok.fresh gS
  -- the list is tracked too
  have I3 : Inv X pins σ (upd (layT H ts) S (.lst (ts.map fun t => .ref t.1))) { s with heap := h2', toks := s.toks } := by
    have old : ∀ b o, s.heap.get? b = some o → b ≠ S := fun b o e => Nat.ne_of_lt (Nat.lt_of_lt_of_le (Heap.lt_size e) gS)
    have oldH : ∀ b o, layT H ts b = some o → b ≠ S := fun b o e z => by
      subst z
      rw [layT_ne ts nl, hl] at e
      cases e
    have frs : ∀ b o, H b = some o → b < s.heap.objs.size := fun b o e => ObjOk.lt (I.hok b o e)
    have lay : ∀ b o, H b = some o → upd (layT H ts) S (.lst (ts.map fun t => .ref t.1)) b = some o := fun b o e => by
      have hb := frs b o e
      rw [upd_ne (Nat.ne_of_lt (Nat.lt_of_lt_of_le hb gS)), layT_ne ts fun m => by
        obtain ⟨t, ht, e⟩ := List.mem_map.mp m
        have := (t3 t ht).1
        rw [e] at this
        exact absurd hb (Nat.not_lt.mpr this)]
      exact e
    refine I.un (h' := h2') (t' := s.toks) ⟨fun b o q _ _ _ => it.kp b o q, fun b o q _ _ _ => ⟨o.slots, it.kp b o q⟩, fun b o q n _ => ?_, fun b o q _ => ⟨o, it.kp b o q⟩, fun b xs q => lay b _ q, fun b o u q => lay b _ q, fun b ps q => ⟨#[], by rw [lay b _ q]; simp⟩⟩ ?_
    · rw [upd_ne (old b o q), layT_ne ts fun m => by
        obtain ⟨t, ht, e⟩ := List.mem_map.mp m
        have := (t3 t ht).1
        rw [e] at this
        exact absurd (Heap.lt_size q) (Nat.not_lt.mpr this)]
      exact n
    · intro b o e
      by_cases hb : b = S
      · subst hb
        rw [upd_same] at e
        cases e
        have el : acc.toList = ts.map fun t => Value.ref t.1 := t1.symm
        refine ⟨?_, acc.toList, c', by rw [el]; exact vals_refs ts, by rw [Array.toArray_toList]; exact hS⟩
        have h1 := it.sz
        have h2 : ts.length = acc.size := by rw [← Array.length_toList, el, List.length_map]
        have h3 := rx.length
        simp only [List.size_toArray] at h1
        rw [List.length_map]
        omega
      · rw [upd_ne hb] at e
        exact ObjOk.stay (I2.hok b o e) (fun _ _ _ e => e) (fun c q => by rw [upd_ne (oldH _ _ q)]; exact q) (fun c xs q => by rw [upd_ne (oldH _ _ q)]; exact q)
  exact ⟨.ref S, _, I3, rfl, q ts S t2 fr nd nl hl⟩
section
variable {C : Bd} {P : Program} {w : World} {K : PySem.W.Frag}
theorem layT_ext {ρ : List Addr} {h : VH} : ∀ (ts : List (Addr × Obj × List V)) {H : Hp}, Sim C P w K ρ h H → (∀ t ∈ ts, H t.1 = none) → (ts.map (·.1)).Nodup → Ext K ρ H ρ (layT H ts) ∧ Sim C P w K ρ h (layT H ts)
  | [], _, S, _, _ => ⟨.refl, S⟩
  | t :: ts, H, S, hf, hn => by
    have hn' : t.1 ∉ ts.map (·.1) ∧ (ts.map (·.1)).Nodup := List.nodup_cons.mp hn
    have hp : H t.1 = none := hf t List.mem_cons_self
    obtain ⟨E, S2⟩ := layT_ext ts (S.fresh (o := .frz t.2.1 (.tup t.2.2)) hp) (fun u hu => by
      have ne : u.1 ≠ t.1 := fun e => hn'.1 (by rw [← e]; exact List.mem_map_of_mem (f := (·.1)) hu)
      rw [upd_ne ne]
      exact hf u (List.mem_cons_of_mem _ hu)) hn'.2
    exact ⟨(Ext.fresh hp).trans E, S2⟩
def zipS (xs ys : List SV) : List SV := List.zipWith (fun x y => .tup [x, y]) xs ys
def lzP : List SV → VH → EvR
  | [a, b], h => match lstOf h a with
    | some (_, xs) => (match lstOf h b with
      | some (_, ys) => mkLst (zipS xs ys) h
      | none => none)
    | none => none
  | _, _ => none
theorem zipS_ok {ρ : List Addr} {H : Hp} : ∀ (ts : List (Addr × Obj × List V)) {xs ys : List SV} {us ws : List V}, VRs K ρ H xs us → VRs K ρ H ys ws → ts.map (·.2.2) = List.zipWith (fun x y => [x, y]) us ws →
    (∀ t ∈ ts, TF K H t.1 t.2.2) → VRs K ρ H (zipS xs ys) (ts.map fun t => .ref t.1)
  | ts, [], ys, _, ws, .nil, _, e, _ => by
    cases ts with
    | nil => exact .nil
    | cons t ts => simp at e
  | ts, _ :: _, [], _, _, .cons _ _, .nil, e, _ => by
    cases ts with
    | nil => exact .nil
    | cons t ts => simp at e
  | ts, x :: xs, y :: ys, _, _, .cons rx rxs, .cons ry rys, e, hT => by
    cases ts with
    | nil => simp at e
    | cons t ts =>
      simp only [List.map_cons, List.zipWith_cons_cons, List.cons.injEq] at e
      have ht := hT t List.mem_cons_self
      rw [e.1] at ht
      exact .cons (.tup ht (.cons rx (.cons ry .nil))) (zipS_ok ts rxs rys e.2 fun u hu => hT u (List.mem_cons_of_mem _ hu))
theorem lzP_ok : PrL C P w K (rLZ K) lzP := by
  intro ρ h H xs vs Q S rs k
  obtain ⟨v, h', e, _⟩ := id k
  unfold lzP at e
  split at e
  · rename_i a b
    split at e
    · rename_i i xs ex
      split at e
      · rename_i j ys ey
        obtain _ | ⟨ra, rt⟩ := rs
        obtain _ | ⟨rb, rt⟩ := rt
        cases rt
        obtain ⟨p, us, rfl, rfl, g1, hρ1, hl1, ru⟩ := lstOf_ok S ra ex
        obtain ⟨p2, ws, rfl, rfl, g2, hρ2, hl2, rw'⟩ := lstOf_ok S rb ey
        refine ⟨p, p2, us, ws, rfl, SqL.of hl1, SqL.of hl2, fun ts l t1 t2 nd nl hl => ?_⟩
        obtain ⟨E, S2⟩ := layT_ext ts S (fun t ht => (t2 t ht).2) nd
        have rz : VRs K ρ (layT H ts) (zipS xs ys) (ts.map fun t => .ref t.1) :=
          zipS_ok ts (ru.mono E) (rw'.mono E) t1 fun t ht => .inl ⟨_, layT_at ts H t nd ht, (t2 t ht).1⟩
        have hl' : layT H ts l = none := by rw [layT_ne ts nl]; exact hl
        refine (mkLst_ok (Q := Q) S2 rz ?_).2 l hl'
        obtain ⟨v1, h1, e1, kk⟩ := k
        unfold lzP at e1
        simp only [] at e1
        rw [ex] at e1
        simp only [] at e1
        rw [ey] at e1
        exact ⟨v1, h1, e1, fun ρ' H' v' E' S' r' => kk ρ' H' v' (E.trans E') S' r'⟩
      · cases e
    · cases e
  · cases e
end
end Ev

namespace KT
open PySem PySem.Spec PyProof.Rows PySem.W
section
variable {prog : Program} {w : World} {A : Around} {E : Value → Shared → Prop} {s : Shared} {T : String} {r d : Addr} {n : Nat} {P : Nat → Value → Prop} {OK : Heap → Prop}
theorem code_tuple_new_kdl {Q₁ : Value → Shared → Prop} (K : KdlSrc prog w T r d n P OK) (hne : (Value.type T == Value.type "tuple") = false) (hh : A.handled = none) (hok : OK s.heap) (hn : n ≤ sizeLine)
    (h : ∀ (h' : Heap) (tk : Nat) (acc : Array Value), (∀ b o, s.heap.get? b = some o → h'.get? b = some o) → ItemsOf P acc n →
      Q₁ (.ref h'.objs.size) { s with heap := h'.push { cls := .type "tuple", data := .seq acc }, toks := tk }) :
    codeAny (model prog w) A (.call (.builtin "tuple.__new__") ⟨[.type "tuple", .ref r], []⟩) (wants Q₁ E) s := by
  refine codeAny_of_tree ?_
  show wpAny _ A.in1 (do checkBuiltinCall "tuple.__new__" ⟨[.type "tuple", .ref r], []⟩; again (.builtin "tuple.__new__" ⟨[.type "tuple", .ref r], []⟩)) _ _ s
  refine wpAny_bind (wpAny_of_eq (F.newCall_tuple_1 _) (wpAny_pure ⟨plainId_quiet F.plain_tuple_new _, codeAny_builtin F.entry_tuple_new ?_⟩))
  rw [Around.under_plainId F.plain_tuple_new _]
  have hsub := sub_tuple_self
  have hinit := init_tuple_lookup
  have hmh := madeHere_tuple
  have hTI : s.TypeIs (.ref r) T := K.type s hok
  have hh1 : A.in1.handled = none := hh
  have key : ∀ R : List Value → Shared → Prop, (∀ (h' : Heap) (tk : Nat) (acc : Array Value), (∀ b o, s.heap.get? b = some o → h'.get? b = some o) → ItemsOf P acc n → R acc.toList { s with heap := h', toks := tk }) →
      wpAny (model prog w) A.in1 (collect (.ref r)) R (fun e s' => wants Q₁ E (.error e) s') s := fun R hR => kdu_collect K hh1 hok hn hR
  wp_walk using wpAny_typeOf hTI, key
  intro h' tk acc hk hacc
  show wpAny _ _ (Builtin.Tuple.tupleExact acc.toList.toArray >>= fun v => ret v) _ _ _
  unfold Builtin.Tuple.tupleExact
  refine wpAny_bind (wpAny_newObj_type ?_ (by show acc.toList.toArray.size ≤ sizeLine; simp only [Array.toArray_toList]; rw [hacc.1]; exact hn))
  refine wpAny_pure ?_
  have e : acc.toList.toArray = acc := by simp
  rw [e]
  exact h h' tk acc hk hacc
theorem call_tuple_kdl {Q : Value → Shared → Prop} (K : KdlSrc prog w T r d n P OK) (hne : (Value.type T == Value.type "tuple") = false) (hh : A.handled = none) (hok : OK s.heap) (hn : n ≤ sizeLine)
    (hQ : ∀ (h' : Heap) (tk : Nat) (acc : Array Value), (∀ b o, s.heap.get? b = some o → h'.get? b = some o) → ItemsOf P acc n →
      Q (.ref h'.objs.size) { s with heap := h'.push { cls := .type "tuple", data := .seq acc }, toks := tk }) :
    wpAny (model prog w) A (call (.type "tuple") [.ref r]) Q E s := by
  refine callType_codes (Q₁ := fun obj s₁ => s₁.TypeIs obj "tuple" ∧ Q obj s₁) F.called_tuple (F.typeCall_tuple_1 _) F.entry_object_init
    (code_tuple_new_kdl (A := A.in1) K hne hh hok hn fun h' tk acc hk hacc => ⟨⟨_, Heap.get?_push_size _ rfl, rfl⟩, hQ h' tk acc hk hacc⟩) fun obj s₁ h₁ => ?_
  exact ⟨h₁.1, F.args_object_init_2 obj _, object_init_meets F.called_tuple.init.lookup F.called_tuple.made (by decide) prog w A.in1 _ s₁ ⟨h₁.1, rfl, h₁.2⟩⟩
end
end KT

namespace Ev
open PySem L2 PySem.Spec PyProof.Rows
/-! ## the keys of a dict with tuple keys, as a list, as a tuple -/
theorem keys_vals {P : Program} {w : World} : ∀ {vs : List KX} {ys : List KY} {es : List DictEntry} {acc : List Value}, XY vs ys → es = ys.map (entryOfKey (nestedKind P w)) → acc.length = es.length → (∀ (j : Nat) (v : Value), acc[j]? = some v → ∃ e, es[j]? = some e ∧ v = e.key) → Vals (vs.map fun x => .ref x.2.1) acc
  | [], _, es, acc, r, he, hl, _ => by
    cases r
    subst he
    cases acc with
    | nil => exact .nil
    | cons a acc => simp at hl
  | x :: vs, _, es, acc, r, he, hl, hp => by
    cases r with
    | @cons _ y _ ys rxy rt =>
      subst he
      cases acc with
      | nil => simp at hl
      | cons a acc =>
        obtain ⟨e, h1, h2⟩ := hp 0 a rfl
        simp at h1
        subst h1
        refine .cons ?_ (keys_vals rt rfl (by simpa using hl) fun j v hv => by
          obtain ⟨e, h1, h2⟩ := hp (j + 1) v (by simpa using hv)
          exact ⟨e, by simpa using h1, h2⟩)
        rw [h2]
        show Value.ref y.2.1 = .ref x.2.1
        rw [← rxy.2.1]
def rListDt (X : Cx) : List V → Hp → VK → Prop := fun us H Q => ∃ d vs, us = [.ref d] ∧ DD X H d vs ∧ ∀ l, H l = none → Q (.ref l) (upd H l (.lst (vs.map fun x => .ref x.2.1)))
def rTupDt (X : Cx) : List V → Hp → VK → Prop := fun us H Q => ∃ d vs, us = [.ref d] ∧ DD X H d vs ∧ ∀ l o, o.dict = none → H l = none → Q (.ref l) (upd H l (.frz o (.tup (vs.map fun x => .ref x.2.1))))
theorem call_listDt {X : Cx} (hc : X.calm = true) : CallR X (.type "list") (rListDt X) := by
  intro pins s σ H xs us Q I r h
  obtain ⟨d, vs, rfl, hd, q⟩ := h
  obtain ⟨u, rfl, rx⟩ := vals1 r
  cases rx
  obtain ⟨ys, rel, hm, hn, hz⟩ := dx_rd I hd
  obtain ⟨o, es, ep, ho, ex, hdt, he, _, _⟩ := id hm
  have hl : vs.length = es.size := by
    rw [PRel.length (XY_iff.mp rel), ← Array.length_toList, he, List.length_map]
  refine PySem.W.kdl_call (KdlSrc.rawDict (es := es) (ep := ep) hn) (I.ok.hd hc) ⟨o, ho, ex, hdt⟩ (by rw [← hl]; exact hz) fun h' tk acc c' hk hS hacc => ?_
  refine ⟨.ref s.heap.objs.size, _, I.laid (t' := tk) (o := .lst (vs.map fun x => .ref x.2.1)) hk (Nat.le_refl _) ⟨by rw [List.length_map]; exact hz, acc.toList, c', ?_, by rw [Array.toArray_toList]; exact hS⟩, rfl, q _ (I.hok.fresh (Nat.le_refl _))⟩
  refine keys_vals rel he (by rw [Array.length_toList, Array.length_toList]; exact hacc.1) fun j v hv => ?_
  obtain ⟨hj, e⟩ := hacc.2 j v (by simpa using hv)
  exact ⟨es[j], by simp [hj], e⟩
theorem call_tupDt {X : Cx} (hc : X.calm = true) : CallR X (.type "tuple") (rTupDt X) := by
  intro pins s σ H xs us Q I r h
  obtain ⟨d, vs, rfl, hd, q⟩ := h
  obtain ⟨u, rfl, rx⟩ := vals1 r
  cases rx
  obtain ⟨ys, rel, hm, hn, hz⟩ := dx_rd I hd
  obtain ⟨o, es, ep, ho, ex, hdt, he, _, _⟩ := id hm
  have hl : vs.length = es.size := by
    rw [PRel.length (XY_iff.mp rel), ← Array.length_toList, he, List.length_map]
  refine KT.call_tuple_kdl (KdlSrc.rawDict (es := es) (ep := ep) hn) (by decide) (I.ok.hd hc) ⟨o, ho, ex, hdt⟩ (by rw [← hl]; exact hz) fun h' tk acc hk hacc => ?_
  have I1 : Inv X pins σ H { s with heap := h', toks := tk } := I.kept (t' := tk) hk
  have rv : Vals (vs.map fun x => V.ref x.2.1) acc.toList := keys_vals rel he (by rw [Array.length_toList, Array.length_toList]; exact hacc.1) fun j v hv => by
    obtain ⟨hj, e⟩ := hacc.2 j v (by simpa using hv)
    exact ⟨es[j], by simp [hj], e⟩
  have I2 := laidT I1 rv (by rw [List.length_map]; exact hz)
  rw [Array.toArray_toList] at I2
  exact ⟨.ref h'.objs.size, _, I2, rfl, q _ _ rfl (I1.hok.fresh (Nat.le_refl _))⟩
/-! ## dict(..) with tuple keys -/
def stAll (xs ps : List KX) : List KX := ps.foldl (fun acc p => stX acc p.1 p.2.1 p.2.2) xs
theorem stAll_rel : ∀ {ps : List KX} {ys : List KY} {xs : List KX} {zs : List KY}, XY ps ys → XY xs zs → XY (stAll xs ps) (storedAllH zs ys)
  | _, _, _, _, .nil, h => h
  | p :: ps, y :: ys, xs, zs, .cons r t, h => by
    show XY (stAll (stX xs p.1 p.2.1 p.2.2) ps) (storedAllH (storedH zs y.1 y.2.1 y.2.2) ys)
    refine stAll_rel t ?_
    rw [storedH_G, r.1, r.2.1]
    exact XY_iff.mpr (PRel.put (f := fun q => (q.1, p.2.2)) (g := fun q => (q.1, y.2.2)) (XY_iff.mp h) ⟨rfl, r.2.2⟩ fun b c q => ⟨q.1, r.2.2⟩)
theorem stAll_len : ∀ (ps xs : List KX), (stAll xs ps).length ≤ xs.length + ps.length
  | [], xs => Nat.le_refl _
  | p :: ps, xs => by
    have h1 := stAll_len ps (stX xs p.1 p.2.1 p.2.2)
    have h2 : (stX xs p.1 p.2.1 p.2.2).length ≤ xs.length + 1 := putG_len
    have e : stAll xs (p :: ps) = stAll (stX xs p.1 p.2.1 p.2.2) ps := rfl
    rw [e, List.length_cons]
    omega
theorem new_dt {X : Cx} {pins : List (Addr × Obj)} {σ : L2.St} {H : Hp} {s : Shared} {h' : Heap} {t' : Nat} {d : Addr} {vs : List KX} {ys : List KY} (I : Inv X pins σ H s) (k : ∀ b o, s.heap.get? b = some o → h'.get? b = some o) (hp : s.heap.objs.size ≤ d) (rel : XY vs ys) (z : vs.length ≤ sizeLine) (hm : h'.DictOfH (nestedKind X.prog X.w) d ys) :
    Inv X pins σ (upd H d (DX X.prog X.w d vs)) { s with heap := h', toks := t' } := by
  obtain ⟨o, es, ep, ho, ex, hd, he, _, nd⟩ := hm
  refine I.laid (t' := t') k hp (DX_ok _ _ ⟨z, ?_, ?_, ys, rel, o, es, ep, ho, ex, hd, he⟩)
  · exact beq_eq_false_iff_ne.mpr (Nat.ne_of_gt (Nat.lt_of_lt_of_le I.big hp))
  · rw [PRel.keys (XY_iff.mp rel)]; exact nd
def rDictDt (X : Cx) : List V → Hp → VK → Prop := fun us H Q => ∃ a ts ps, us = [.ref a] ∧ SqL X.K H a (ts.map V.ref) ∧ Paired (fun (t : Addr) (p : KX) => SqT X.K H t [.ref p.2.1, p.2.2]) ts ps ∧ (∀ p ∈ ps, KOk X.K H p.1 p.2.1) ∧
  ∀ d, H d = none → Q (.ref d) (upd H d (DX X.prog X.w d (stAll [] ps)))
theorem pairsX {X : Cx} {pins : List (Addr × Obj)} {σ : L2.St} {H : Hp} {s : Shared} (I : Inv X pins σ H s) : ∀ {ts : List Addr} {ps : List KX}, Paired (fun (t : Addr) (p : KX) => SqT X.K H t [.ref p.2.1, p.2.2]) ts ps →
    ∃ ys : List KY, XY ps ys ∧ ys.length = ts.length ∧ ∀ (j : Nat) (y : KY), ys[j]? = some y → ∃ t, ts[j]? = some t ∧ s.heap.IsTuple t #[.ref y.2.1, y.2.2]
  | _, _, .nil => ⟨[], .nil, rfl, fun j y e => by simp at e⟩
  | t :: ts, p :: ps, .cons h tl => by
    obtain ⟨ys, r, hl, hp⟩ := pairsX I tl
    obtain ⟨its, rv, ht, _⟩ := I.tuple h
    obtain ⟨u, y, ei, ru, ry⟩ := vals2 rv
    subst ei
    cases ru
    refine ⟨(p.1, p.2.1, y) :: ys, .cons ⟨rfl, rfl, ry⟩ r, by simp [hl], fun j q e => ?_⟩
    cases j with
    | zero =>
      simp at e
      subst e
      exact ⟨t, rfl, ht⟩
    | succ j =>
      obtain ⟨t', e1, e2⟩ := hp j q (by simpa using e)
      exact ⟨t', by simpa using e1, e2⟩
theorem is_all {X : Cx} {pins : List (Addr × Obj)} {σ : L2.St} {H : Hp} {s : Shared} {ps : List KX} {ys : List KY} (I : Inv X pins σ H s) (r : XY ps ys) (hk : ∀ p ∈ ps, KOk X.K H p.1 p.2.1) : ∀ y ∈ ys, (nestedKind X.prog X.w).is s.heap y.1 y.2.1 := fun y hy => by
  obtain ⟨p, hp, e1, e2, _⟩ := PRel.mem (XY_iff.mp r) hy
  have := (hk p hp).is I
  rw [e1, e2] at this
  exact this
theorem call_dictDt {X : Cx} (hc : X.calm = true) (hu : X.A.units + 10 < cLine) : CallR X (.type "dict") (rDictDt X) := by
  intro pins s σ H xs us Q I r h
  obtain ⟨a, ts, ps, rfl, hq, hp, hk, q⟩ := h
  obtain ⟨u, rfl, rx⟩ := vals1 r
  cases rx
  obtain ⟨its, rv, pl, hz⟩ := I.list hq
  have ei := refs_at rv
  subst ei
  rw [List.length_map] at hz
  obtain ⟨ys, rel, hl, hpr⟩ := pairsX I hp
  obtain ⟨o, n, ho, hcl, hd, hdat⟩ := pl
  have hal := is_all I rel hk
  refine call_dict_pairsH (knd := nestedKind X.prog X.w) (ps := ys) (PairArg.list a (ts.map Value.ref).toArray (fun j => ts.getD j 0) (ys.map fun y => (Value.ref y.2.1, y.2.2))) (I.ok.hd hc) (by show X.A.units + 1 + 1 + 8 < cLine; omega) ⟨⟨o, n, ho, hcl, hd, hdat⟩, by simp [hl], fun j k v e => ?_⟩ ⟨by simp, fun i key v e => ?_⟩ ?_ (by rw [List.length_map, hl]; exact hz) fun h' tk hm hkk => ?_
  · rw [List.getElem?_map] at e
    cases e2 : ys[j]? with
    | none => rw [e2] at e; cases e
    | some y =>
      rw [e2] at e
      cases e
      obtain ⟨t, e3, e4⟩ := hpr j y e2
      refine ⟨by simp [List.getD_eq_getElem?_getD, e3], .inl ?_⟩
      show s.heap.IsTuple (ts.getD j 0) _
      rw [List.getD_eq_getElem?_getD, e3]
      exact e4
  · have e : (ys.map fun y => (Value.ref y.2.1, y.2.2))[i]? = some (key, v) := e
    rw [List.getElem?_map] at e
    cases e2 : ys[i]? with
    | none => rw [e2] at e; cases e
    | some y =>
      rw [e2] at e
      cases e
      exact ⟨y.1, y.2.1, rfl, rfl⟩
  · intro h' hk' y hy
    exact nestedKind_stays.all h' (fun b o _ e => hk' b o (Nat.ne_of_lt (Heap.lt_size e)) (by simp) e) _ _ (hal y hy)
  · have rel2 : XY (stAll [] ps) (storedAllH [] ys) := stAll_rel rel .nil
    refine ⟨.ref s.heap.objs.size, _, new_dt (t' := tk) I (fun b o e => hkk b o (by simp) e) (Nat.le_refl _) rel2 ?_ hm, rfl, q _ (I.hok.fresh (Nat.le_refl _))⟩
    have h1 := stAll_len ps []
    have h2 := PRel.length (XY_iff.mp rel)
    simp only [List.length_nil] at h1
    omega
/-- dict(zip(ks, vs)) -/
def rDZ (X : Cx) : List V → Hp → VK → Prop := fun us H Q => ∃ a b ps, us = [.ref a, .ref b] ∧ SqL X.K H a (ps.map fun p : KX => V.ref p.2.1) ∧ SqL X.K H b (ps.map (·.2.2)) ∧ (∀ p ∈ ps, KOk X.K H p.1 p.2.1) ∧
  ∀ d, H d = none → Q (.ref d) (upd H d (DX X.prog X.w d (stAll [] ps)))
theorem zipped {ps : List KX} : ∀ {us ws : List Value}, Vals (ps.map fun p : KX => V.ref p.2.1) us → Vals (ps.map (·.2.2)) ws → ∃ ys : List KY, XY ps ys ∧ us = ys.map (fun y => Value.ref y.2.1) ∧ ws = ys.map (·.2.2) := by
  induction ps with
  | nil => intro us ws r1 r2; cases r1; cases r2; exact ⟨[], .nil, rfl, rfl⟩
  | cons p ps ih =>
    intro us ws r1 r2
    cases r1 with
    | cons a b =>
      cases r2 with
      | cons c d =>
        obtain ⟨ys, e1, e2, e3⟩ := ih b d
        cases a
        subst e2 e3
        exact ⟨(p.1, p.2.1, _) :: ys, .cons ⟨rfl, rfl, c⟩ e1, rfl, rfl⟩
theorem zipR_dict {X : Cx} (hc : X.calm = true) (hu : X.A.units + 10 < cLine) : ZipR X "dict" (rDZ X) := by
  intro pins s σ H vs us Q I ru h
  obtain ⟨a, b, ps, rfl, ha, hb, hk, q⟩ := h
  obtain ⟨u1, u2, rfl, e1, e2⟩ := vals2 ru
  cases e1
  cases e2
  obtain ⟨its, rx, p1, z1⟩ := I.list ha
  obtain ⟨its2, ry, p2, z2⟩ := I.list hb
  obtain ⟨ys, rel, ei, ei2⟩ := zipped rx ry
  refine call_zip_2 p1.isList p2.isList fun h' hz hTI hTO h1 h2 hsz hk' => ?_
  have lt1 := p1.lt
  have lt2 := p2.lt
  have D : ZipApart (s.heap.objs.size + 4) (s.heap.objs.size + 2) (s.heap.objs.size + 3) s.heap.objs.size (s.heap.objs.size + 1) a b := PySem.W.ktu_apart s.heap.objs.size a b lt1 lt2
  have hal := is_all I rel hk
  have el : ps.length = ys.length := PRel.length (XY_iff.mp rel)
  have zl : ps.length ≤ sizeLine := by simpa using z1
  have emin : min its.toArray.size its2.toArray.size = ys.length := by rw [ei, ei2]; simp
  have keepS : ∀ (h'' : Heap), (∀ c o, c ∉ [s.heap.objs.size + 4, s.heap.objs.size + 3, s.heap.objs.size, s.heap.objs.size + 1] → c ≠ h'.objs.size → h'.get? c = some o → h''.get? c = some o) → ∀ c o, s.heap.get? c = some o → h''.get? c = some o := fun h'' kk c o e => by
    have hcl : c < s.heap.objs.size := Heap.lt_size e
    refine kk c o ?_ (Nat.ne_of_lt (Nat.lt_of_lt_of_le hcl (by rw [hsz]; exact Nat.le_add_right _ _))) (hk' c o e)
    simp only [List.mem_cons, List.not_mem_nil, or_false, not_or]
    exact ⟨Nat.ne_of_lt (Nat.lt_of_lt_of_le hcl (Nat.le_add_right _ _)), Nat.ne_of_lt (Nat.lt_of_lt_of_le hcl (Nat.le_add_right _ _)), Nat.ne_of_lt hcl, Nat.ne_of_lt (Nat.lt_of_lt_of_le hcl (Nat.le_add_right _ _))⟩
  refine call_dict_pairsH (s := { s with heap := h' }) (knd := nestedKind X.prog X.w) (ps := ys) (PairArg.zip _ _ _ _ _ _ _ D its.toArray its2.toArray) (I.ok.hd hc) (by show X.A.units + 1 + 1 + 8 < cLine; omega) ⟨hz, hTI, ⟨_, _, hTO⟩, h1, h2, p1.isList.at fun o e => hk' _ o e, p2.isList.at fun o e => hk' _ o e⟩ ⟨emin.symm, fun i key v e => ?_⟩ ?_ (by rw [emin, ← el]; exact zl) fun h'' tk hm hkk => ?_
  · obtain ⟨f1, f2⟩ := e
    rw [ei] at f1
    rw [ei2] at f2
    simp only [List.getElem?_toArray, List.getElem?_map] at f1 f2
    cases e2 : ys[i]? with
    | none => rw [e2] at f1; cases f1
    | some y =>
      rw [e2] at f1 f2
      cases f1
      cases f2
      exact ⟨y.1, y.2.1, rfl, rfl⟩
  · intro h'' hk'' y hy
    exact nestedKind_stays.all h'' (fun c o _ e => keepS h'' (fun c o n1 n2 e => hk'' c o n2 n1 e) c o e) _ _ (hal y hy)
  · have rel2 : XY (stAll [] ps) (storedAllH [] ys) := stAll_rel rel .nil
    have hp : s.heap.objs.size ≤ h'.objs.size := by omega
    refine ⟨.ref h'.objs.size, _, new_dt (s := s) (t' := tk) I (keepS h'' fun c o n1 _ e => hkk c o n1 e) hp rel2 ?_ hm, rfl, q _ (I.hok.fresh hp)⟩
    have h1 := stAll_len ps []
    simp only [List.length_nil] at h1
    omega
end Ev

namespace Ev
open PySem L2 PySem.Spec PyProof.Rows

/-! ## list(d), tuple(d), by values -/
def dtOf (h : VH) : SV → Option (List (NestedKey × SV))
  | .loc i => match h.get i with
    | some (.dt kvs) => some kvs
    | _ => none
  | _ => none
def dkOf (h : VH) : SV → Option (List (Key × SV))
  | .loc i => match h.get i with
    | some (.dk kvs) => some kvs
    | _ => none
  | _ => none
def kS : Key → SV
  | .inl i => .int i
  | .inr x => .str x
def listAll : List SV → VH → EvR
  | [a], h => match dtOf h a with
    | some kvs => mkLst (kvs.map fun p => svK p.1) h
    | none => match dkOf h a with
      | some kvs => mkLst (kvs.map fun p => kS p.1) h
      | none => listP [a] h
  | _, _ => none
def tupleAll : List SV → VH → EvR
  | [a], h => match dtOf h a with
    | some kvs => mkTup (kvs.map fun p => svK p.1) h
    | none => tupleP [a] h
  | _, _ => none
def lenAll : List SV → VH → EvR := fun xs h => match lenP xs h with
  | some r => some r
  | none => lenDP xs h
section
variable {X : Cx} {C : Bd}
def rListAll (X : Cx) : List V → Hp → VK → Prop := fun us H Q => rListS X.K us H Q ∨ rListDt X us H Q ∨ rListD us H Q
theorem call_listAll (hc : X.calm = true) : CallR X (.type "list") (rListAll X) := CallR.or call_list_of (CallR.or (call_listDt hc) (call_list_dK hc))
def rTupAll (X : Cx) : List V → Hp → VK → Prop := fun us H Q => rTupF X.K us H Q ∨ rTupDt X us H Q
theorem call_tupAll (hc : X.calm = true) : CallR X (.type "tuple") (rTupAll X) := CallR.or call_tupF (call_tupDt hc)
def rLenAll (X : Cx) : List V → Hp → VK → Prop := fun us H Q => rLenS X.K us H Q ∨ rLenDt X us H Q
theorem call_lenAll : CallR X (.builtin "len") (rLenAll X) := CallR.or call_len_seq call_lenDt
theorem lenAll_ok : PrL C X.prog X.w X.K (rLenAll X) lenAll := by
  intro ρ h H xs vs Q S rs k
  unfold lenAll at k
  cases e : lenP xs h with
  | some r =>
    rw [e] at k
    exact .inl (lenP_ok ρ h H xs vs Q S rs (by rw [e]; exact k))
  | none =>
    rw [e] at k
    exact .inr (lenDP_ok ρ h H xs vs Q S rs k)
theorem dtOf_ok {ρ : List Addr} {h : VH} {H : Hp} {a : SV} {a' : V} {kvs : List (NestedKey × SV)} (S : Sim C X.prog X.w X.K ρ h H) (ra : VR X.K ρ H a a') (e : dtOf h a = some kvs) : ∃ d vs, a' = .ref d ∧ DD X H d vs ∧ PRel (fun x q => VR X.K ρ H x q.2) kvs vs := by
  unfold dtOf at e
  split at e
  · split at e
    · rename_i g
      cases e
      cases ra with
      | loc ha =>
        obtain ⟨vs, hd, rel⟩ := S.dt g ha
        exact ⟨_, vs, rfl, hd, rel⟩
    · cases e
  · cases e
theorem dkOf_ok {ρ : List Addr} {h : VH} {H : Hp} {a : SV} {a' : V} {kvs : List (Key × SV)} (S : Sim C X.prog X.w X.K ρ h H) (ra : VR X.K ρ H a a') (e : dkOf h a = some kvs) : ∃ d vs, a' = .ref d ∧ H d = some (.dK vs) ∧ PRel (fun x q => VR X.K ρ H x q) kvs vs := by
  unfold dkOf at e
  split at e
  · split at e
    · rename_i g
      cases e
      cases ra with
      | loc ha =>
        obtain ⟨vs, hd, rel⟩ := S.dk g ha
        exact ⟨_, vs, rfl, hd, rel⟩
    · cases e
  · cases e
theorem keysX_ok {ρ : List Addr} {H : Hp} : ∀ {kvs : List (NestedKey × SV)} {vs : List KX}, PRel (fun x q => VR X.K ρ H x q.2) kvs vs → (∀ x ∈ vs, KOk X.K H x.1 x.2.1) → VRs X.K ρ H (kvs.map fun p => svK p.1) (vs.map fun x => .ref x.2.1)
  | _, _, .nil, _ => .nil
  | p :: kvs, q :: vs, .cons r t, hk => by
    refine .cons ?_ (keysX_ok t fun x hx => hk x (List.mem_cons_of_mem _ hx))
    show VR X.K ρ H (svK p.1) (.ref q.2.1)
    rw [r.1]
    exact (hk q List.mem_cons_self).1.open_
theorem keysK_ok {ρ : List Addr} {H : Hp} : ∀ {kvs : List (Key × SV)} {vs : List (Key × V)}, PRel (fun x q => VR X.K ρ H x q) kvs vs → VRs X.K ρ H (kvs.map fun p => kS p.1) (vs.map fun kv => kV kv.1)
  | _, _, .nil => .nil
  | p :: kvs, q :: vs, .cons r t => by
    refine .cons ?_ (keysK_ok t)
    show VR X.K ρ H (kS p.1) (kV q.1)
    rw [r.1]
    cases q.1 with
    | inl i => exact .int i
    | inr x => exact .str x
theorem listAll_ok : PrL C X.prog X.w X.K (rListAll X) listAll := by
  intro ρ h H xs vs Q S rs k
  obtain ⟨v, h', e, _⟩ := id k
  unfold listAll at e
  split at e
  · rename_i a
    split at e
    · rename_i kvs ed
      obtain _ | ⟨ra, rt⟩ := rs
      cases rt
      obtain ⟨d, us, rfl, hd, rel⟩ := dtOf_ok S ra ed
      refine .inr (.inl ⟨d, us, rfl, hd, (mkLst_ok (Q := Q) S (keysX_ok rel hd.2) ?_).2⟩)
      unfold listAll at k; simp only [] at k; rw [ed] at k; exact k
    · rename_i ed
      split at e
      · rename_i kvs ek
        obtain _ | ⟨ra, rt⟩ := rs
        cases rt
        obtain ⟨d, us, rfl, hd, rel⟩ := dkOf_ok S ra ek
        refine .inr (.inr ⟨d, us, rfl, hd, (mkLst_ok (Q := Q) S (keysK_ok rel) ?_).2⟩)
        unfold listAll at k; simp only [] at k; rw [ed] at k; simp only [] at k; rw [ek] at k; exact k
      · rename_i ek
        refine .inl (listP_ok ρ h H [a] vs Q S rs ?_)
        unfold listAll at k; simp only [] at k; rw [ed] at k; simp only [] at k; rw [ek] at k; exact k
  · cases e
theorem tupleAll_ok : PrL C X.prog X.w X.K (rTupAll X) tupleAll := by
  intro ρ h H xs vs Q S rs k
  obtain ⟨v, h', e, _⟩ := id k
  unfold tupleAll at e
  split at e
  · rename_i a
    split at e
    · rename_i kvs ed
      obtain _ | ⟨ra, rt⟩ := rs
      cases rt
      obtain ⟨d, us, rfl, hd, rel⟩ := dtOf_ok S ra ed
      refine .inr ⟨d, us, rfl, hd, (mkTup_ok (Q := Q) S (keysX_ok rel hd.2) ?_).2⟩
      unfold tupleAll at k; simp only [] at k; rw [ed] at k; exact k
    · rename_i ed
      refine .inl (tupleP_ok ρ h H [a] vs Q S rs ?_)
      unfold tupleAll at k; simp only [] at k; rw [ed] at k; exact k
  · cases e
end

/-! ## dict(pairs), by values -/
def prOf : SV → Option (SV × SV)
  | .tup [k, v] => some (k, v)
  | _ => none
def pairsOf {κ : Type} (f : SV → Option κ) : List SV → Option (List (κ × SV))
  | [] => some []
  | x :: r => match prOf x with
    | some (k, v) => (match f k with
      | some k' => (match pairsOf f r with
        | some ps => some ((k', v) :: ps)
        | none => none)
      | none => none)
    | none => none
theorem prOf_ok {K : PySem.W.Frag} {ρ : List Addr} {H : Hp} {x k v : SV} {u : V} (r : VR K ρ H x u) (e : prOf x = some (k, v)) : ∃ t k' v', u = .ref t ∧ SqT K H t [k', v'] ∧ VR K ρ H k k' ∧ VR K ρ H v v' := by
  unfold prOf at e
  split at e
  · cases e
    cases r with
    | tup ht rr =>
      obtain _ | ⟨rk, rr⟩ := rr
      obtain _ | ⟨rv, rr⟩ := rr
      cases rr
      exact ⟨_, _, _, rfl, ht.sq, rk, rv⟩
  · cases e
def stAllS {κ : Type} (t : κ → κ → Bool) (xs ps : List (κ × SV)) : List (κ × SV) := ps.foldl (fun acc p => putG t acc p.1 p.2 fun _ => p.2) xs
def mkDt (kvs : List (NestedKey × SV)) (h : VH) : EvR := some (.loc h.n, (h.new (.dt kvs)).2)
def mkDk (kvs : List (Key × SV)) (h : VH) : EvR := some (.loc h.n, (h.new (.dk kvs)).2)
def dictP : List SV → VH → EvR
  | [a], h => match lstOf h a with
    | some (_, xs) => (match pairsOf keyOf xs with
      | some ps => mkDt (stAllS kb [] ps) h
      | none => match pairsOf keyK xs with
        | some ps => mkDk (stAllS kt [] ps) h
        | none => none)
    | none => none
  | _, _ => none
section
variable {X : Cx} {C : Bd}
theorem mkDt_ok {ρ : List Addr} {h : VH} {H : Hp} {kvs : List (NestedKey × SV)} {vs : List KX} {Q : VK} (S : Sim C X.prog X.w X.K ρ h H) (hk : ∀ x ∈ vs, KOk X.K H x.1 x.2.1) (r : PRel (fun x q => VR X.K ρ H x q.2) kvs vs) (k : tK C X.prog X.w X.K (mkDt kvs h) ρ H Q) :
    ∀ d, H d = none → Q (.ref d) (upd H d (DX X.prog X.w d vs)) := by
  intro d hd
  have E : Ext X.K ρ H (ρ ++ [d]) (upd H d (DX X.prog X.w d vs)) := Ext.new hd
  exact k.of rfl E (S.new hd (OR.dtP ⟨upd_same, fun x hx => (hk x hx).mono E⟩ (r.mono fun _ _ z => z.mono E))) (.loc (by rw [← S.len]; simp))
theorem mkDk_ok {ρ : List Addr} {h : VH} {H : Hp} {kvs : List (Key × SV)} {vs : List (Key × V)} {Q : VK} (S : Sim C X.prog X.w X.K ρ h H) (r : PRel (fun x q => VR X.K ρ H x q) kvs vs) (k : tK C X.prog X.w X.K (mkDk kvs h) ρ H Q) :
    ∀ d, H d = none → Q (.ref d) (upd H d (.dK vs)) := by
  intro d hd
  have E : Ext X.K ρ H (ρ ++ [d]) (upd H d (.dK vs)) := Ext.new hd
  exact k.of rfl E (S.new hd (OR.dkP upd_same (r.mono fun _ _ z => z.mono E))) (.loc (by rw [← S.len]; simp))
theorem stAllS_dt {ρ : List Addr} {H : Hp} : ∀ {ps : List (NestedKey × SV)} {qs : List KX} {xs : List (NestedKey × SV)} {ys : List KX}, PRel (fun x q => VR X.K ρ H x q.2) ps qs → PRel (fun x q => VR X.K ρ H x q.2) xs ys → PRel (fun x q => VR X.K ρ H x q.2) (stAllS kb xs ps) (stAll ys qs)
  | _, _, _, _, .nil, h => h
  | p :: ps, q :: qs, xs, ys, .cons r t, h => by
    show PRel _ (stAllS kb (putG kb xs p.1 p.2 fun _ => p.2) ps) (stAll (stX ys q.1 q.2.1 q.2.2) qs)
    refine stAllS_dt t ?_
    rw [r.1]
    exact PRel.put h r.2 fun _ _ _ => r.2
theorem stAllS_dk {ρ : List Addr} {H : Hp} : ∀ {ps : List (Key × SV)} {qs : List (Key × V)} {xs : List (Key × SV)} {ys : List (Key × V)}, PRel (fun x q => VR X.K ρ H x q) ps qs → PRel (fun x q => VR X.K ρ H x q) xs ys → PRel (fun x q => VR X.K ρ H x q) (stAllS kt xs ps) (mergeK ys qs)
  | _, _, _, _, .nil, h => h
  | p :: ps, q :: qs, xs, ys, .cons r t, h => by
    show PRel _ (stAllS kt (putG kt xs p.1 p.2 fun _ => p.2) ps) (mergeK (putK ys q.1 q.2) qs)
    refine stAllS_dk t ?_
    rw [r.1, putK_G]
    exact PRel.put h r.2 fun _ _ _ => r.2
theorem stAll_keys {H : Hp} : ∀ {ps xs : List KX}, (∀ x ∈ ps, KOk X.K H x.1 x.2.1) → (∀ x ∈ xs, KOk X.K H x.1 x.2.1) → ∀ x ∈ stAll xs ps, KOk X.K H x.1 x.2.1
  | [], _, _, hx => hx
  | p :: ps, xs, hp, hx => by
    show ∀ x ∈ stAll (stX xs p.1 p.2.1 p.2.2) ps, _
    refine stAll_keys (fun x m => hp x (List.mem_cons_of_mem _ m)) fun x m => ?_
    rcases putG_mem m with ⟨y, hy, e1, e2⟩ | e
    · have := hx y hy
      rw [e1]
      rcases e2 with e2 | e2
      · rw [e2]; exact this
      · rw [e2]; exact this
    · rw [e]; exact hp p List.mem_cons_self
theorem pairsOf_dt {ρ : List Addr} {H : Hp} : ∀ {xs : List SV} {us : List V} {ps : List (NestedKey × SV)}, VRs X.K ρ H xs us → pairsOf keyOf xs = some ps →
    ∃ (ts : List Addr) (qs : List KX), us = ts.map V.ref ∧ Paired (fun (t : Addr) (p : KX) => SqT X.K H t [.ref p.2.1, p.2.2]) ts qs ∧ (∀ p ∈ qs, KOk X.K H p.1 p.2.1) ∧ PRel (fun x q => VR X.K ρ H x q.2) ps qs
  | [], _, _, .nil, e => by cases e; exact ⟨[], [], rfl, .nil, fun p hp => (by cases hp), .nil⟩
  | x :: xs, _, _, .cons ra rs, e => by
    unfold pairsOf at e
    split at e
    · rename_i k v epr
      split at e
      · rename_i k' ek
        split at e
        · rename_i ps' ep
          cases e
          obtain ⟨ts, qs, rfl, h1, h2, h3⟩ := pairsOf_dt rs ep
          obtain ⟨t, kv, vv, rfl, ht, rk, rv⟩ := prOf_ok ra epr
          obtain ⟨a, rfl, hk, _⟩ := keyOf_ok ek rk
          refine ⟨t :: ts, (k', a, vv) :: qs, rfl, .cons ht h1, fun p hp => ?_, .cons ⟨rfl, rv⟩ h3⟩
          rcases List.mem_cons.mp hp with rfl | hp
          · exact hk
          · exact h2 p hp
        · cases e
      · cases e
    · cases e
theorem pairsOf_dk {ρ : List Addr} {H : Hp} : ∀ {xs : List SV} {us : List V} {ps : List (Key × SV)}, VRs X.K ρ H xs us → pairsOf keyK xs = some ps →
    ∃ (ts : List Addr) (qs : List (Key × V)), us = ts.map V.ref ∧ Paired (fun (t : Addr) (p : Key × V) => SqT X.K H t [kV p.1, p.2]) ts qs ∧ PRel (fun x q => VR X.K ρ H x q) ps qs
  | [], _, _, .nil, e => by cases e; exact ⟨[], [], rfl, .nil, .nil⟩
  | x :: xs, _, _, .cons ra rs, e => by
    unfold pairsOf at e
    split at e
    · rename_i k v epr
      split at e
      · rename_i k' ek
        split at e
        · rename_i ps' ep
          cases e
          obtain ⟨ts, qs, rfl, h1, h3⟩ := pairsOf_dk rs ep
          obtain ⟨t, kv, vv, rfl, ht, rk, rv⟩ := prOf_ok ra epr
          have e2 := keyK_ok ek rk
          subst e2
          exact ⟨t :: ts, (k', vv) :: qs, rfl, .cons ht h1, .cons ⟨rfl, rv⟩ h3⟩
        · cases e
      · cases e
    · cases e
def rDictDk (X : Cx) : List V → Hp → VK → Prop := fun xs H Q => ∃ (a : Addr) (ps : List Addr) (kvs : List (Key × V)), xs = [.ref a] ∧ SqL X.K H a (ps.map V.ref) ∧ Paired (fun p kv => SqT X.K H p [kV kv.1, kv.2]) ps kvs ∧
    ∀ p, H p = none → Q (.ref p) (upd H p (.dK (mergeK [] kvs)))
def rDictAll (X : Cx) : List V → Hp → VK → Prop := fun us H Q => rDictDt X us H Q ∨ rDictDk X us H Q
theorem call_dictAll (hc : X.calm = true) (hu : X.A.units + 10 < cLine) : CallR X (.type "dict") (rDictAll X) := CallR.or (call_dictDt hc hu) (call_dictP hc)
theorem dictP_ok : PrL C X.prog X.w X.K (rDictAll X) dictP := by
  intro ρ h H xs vs Q S rs k
  obtain ⟨v, h', e, _⟩ := id k
  unfold dictP at e
  split at e
  · rename_i a
    split at e
    · rename_i i ys ey
      obtain _ | ⟨ra, rt⟩ := rs
      cases rt
      obtain ⟨p, us, rfl, rfl, g, hρ, hl, ru⟩ := lstOf_ok S ra ey
      split at e
      · rename_i ps ep
        obtain ⟨ts, qs, rfl, h1, h2, h3⟩ := pairsOf_dt ru ep
        refine .inl ⟨p, ts, qs, rfl, SqL.of hl, h1, h2, mkDt_ok (Q := Q) S (stAll_keys h2 fun x hx => by cases hx) (stAllS_dt h3 .nil) ?_⟩
        unfold dictP at k; simp only [] at k; rw [ey] at k; simp only [] at k; rw [ep] at k; exact k
      · rename_i ep
        split at e
        · rename_i ps ek
          obtain ⟨ts, qs, rfl, h1, h3⟩ := pairsOf_dk ru ek
          refine .inr ⟨p, ts, qs, rfl, SqL.of hl, h1, mkDk_ok (Q := Q) S (stAllS_dk h3 .nil) ?_⟩
          unfold dictP at k; simp only [] at k; rw [ey] at k; simp only [] at k; rw [ep] at k; simp only [] at k; rw [ek] at k; exact k
        · cases e
    · cases e
  · cases e
/-- dict(zip(ks, vs)) -/
def zipK : List SV → List SV → Option (List (NestedKey × SV))
  | [], [] => some []
  | k :: ks, v :: vs => (match keyOf k with
    | some k' => (match zipK ks vs with
      | some ps => some ((k', v) :: ps)
      | none => none)
    | none => none)
  | _, _ => none
def dzP : List SV → VH → EvR
  | [a, b], h => match lstOf h a with
    | some (_, xs) => (match lstOf h b with
      | some (_, ys) => (match zipK xs ys with
        | some ps => mkDt (stAllS kb [] ps) h
        | none => none)
      | none => none)
    | none => none
  | _, _ => none
theorem zipK_ok {ρ : List Addr} {H : Hp} : ∀ {xs ys : List SV} {us ws : List V} {ps : List (NestedKey × SV)}, VRs X.K ρ H xs us → VRs X.K ρ H ys ws → zipK xs ys = some ps →
    ∃ qs : List KX, us = qs.map (fun p => V.ref p.2.1) ∧ ws = qs.map (·.2.2) ∧ (∀ p ∈ qs, KOk X.K H p.1 p.2.1) ∧ PRel (fun x q => VR X.K ρ H x q.2) ps qs
  | [], [], _, _, _, .nil, .nil, e => by cases e; exact ⟨[], rfl, rfl, fun p hp => (by cases hp), .nil⟩
  | [], _ :: _, _, _, _, _, _, e => by cases e
  | _ :: _, [], _, _, _, _, _, e => by cases e
  | x :: xs, y :: ys, _, _, _, .cons rx rxs, .cons ry rys, e => by
    unfold zipK at e
    split at e
    · rename_i k' ek
      split at e
      · rename_i ps' ep
        cases e
        obtain ⟨qs, rfl, rfl, h2, h3⟩ := zipK_ok rxs rys ep
        obtain ⟨a, rfl, hk, _⟩ := keyOf_ok ek rx
        refine ⟨(k', a, _) :: qs, rfl, rfl, fun p hp => ?_, .cons ⟨rfl, ry⟩ h3⟩
        rcases List.mem_cons.mp hp with rfl | hp
        · exact hk
        · exact h2 p hp
      · cases e
    · cases e
theorem dzP_ok : PrL C X.prog X.w X.K (rDZ X) dzP := by
  intro ρ h H xs vs Q S rs k
  obtain ⟨v, h', e, _⟩ := id k
  unfold dzP at e
  split at e
  · rename_i a b
    split at e
    · rename_i i xs' ex
      split at e
      · rename_i j ys ey
        split at e
        · rename_i ps ep
          obtain _ | ⟨ra, rt⟩ := rs
          obtain _ | ⟨rb, rt⟩ := rt
          cases rt
          obtain ⟨p, us, rfl, rfl, g1, hρ1, hl1, ru⟩ := lstOf_ok S ra ex
          obtain ⟨p2, ws, rfl, rfl, g2, hρ2, hl2, rw'⟩ := lstOf_ok S rb ey
          obtain ⟨qs, rfl, rfl, h2, h3⟩ := zipK_ok ru rw' ep
          refine ⟨p, p2, qs, rfl, SqL.of hl1, SqL.of hl2, h2, mkDt_ok (Q := Q) S (stAll_keys h2 fun x hx => by cases hx) (stAllS_dt h3 .nil) ?_⟩
          unfold dzP at k; simp only [] at k; rw [ex] at k; simp only [] at k; rw [ey] at k; simp only [] at k; rw [ep] at k; exact k
        · cases e
      · cases e
    · cases e
  · cases e
end

/-! ## isinstance -/
def tyNm (h : VH) : SV → Option String
  | .non => some "NoneType" | .bl _ => some "bool" | .int _ => some "int" | .str _ => some "str" | .tup _ => some "tuple"
  | .loc i => (match h.get i with | some (.lst _) => some "list" | some (.dk _) => some "dict" | _ => none)
  | .ty _ => none
def tyOfS : SV → Option String
  | .ty n => some n
  | _ => none
def tysOf : List SV → Option (List String)
  | [] => some []
  | x :: r => match tyOfS x with
    | some n => (match tysOf r with
      | some ns => some (n :: ns)
      | none => none)
    | none => none
def kitAnyB (t : String) : List String → Option Bool
  | [] => some false
  | n :: r => match kitB t n with
    | some true => some true
    | some false => kitAnyB t r
    | none => none
def isiP : List SV → VH → EvR
  | [x, y], h => (match tyNm h x with
    | some t => (match tyOfS y with
      | some n => (match kitB t n with
        | some b => some (.bl b, h)
        | none => none)
      | none => match tupOf y with
        | some cs => (match tysOf cs with
          | some ns => (match kitAnyB t ns with
            | some b => some (.bl b, h)
            | none => none)
          | none => none)
        | none => none)
    | none => none)
  | _, _ => none
def rIsiF (K : PySem.W.Frag) : List V → Hp → VK → Prop := fun xs H Q => ∃ (x : V) (tp : Addr) (cs : List V) (t : Value) (us : List Value) (b : Bool), xs = [x, .ref tp] ∧ SqT K H tp cs ∧ Paired ClsV cs us ∧ TyX K H x t ∧ PySem.W.kitAny K t us = some b ∧ Q (.bl b) H
section
variable {X : Cx} {C : Bd}
theorem call_isiF : CallR X (.builtin "isinstance") (rIsiF X.K) := by
  intro pins s σ H xs us Q I r h
  obtain ⟨x, tp, cs, t, ws, b, rfl, hT, k, ty, e, q⟩ := h
  obtain ⟨u1, u2, rfl, r1, r2⟩ := vals2 r
  cases (show u2 = Value.ref tp from r2)
  obtain ⟨P, Z, p, hx⟩ := kit_of I r1 ty
  obtain ⟨its, rv, ⟨o, h1, h2, n, h3⟩, _⟩ := I.tuple hT
  have e3 := ClsV.all k rv
  subst e3
  obtain ⟨oc, od, dt, sl⟩ := o
  simp only at h2 h3
  subst h2 h3
  exact PySem.W.kia_tup Z I.kIn p h1 e hx fun tk => ⟨.bl b, H, I.tok tk, rfl, q⟩
def rIsiAll (X : Cx) : List V → Hp → VK → Prop := fun us H Q => rIsi X.K us H Q ∨ rIsiF X.K us H Q
theorem call_isiAll : CallR X (.builtin "isinstance") (rIsiAll X) := CallR.or call_isi call_isiF
theorem tyNm_ok {ρ : List Addr} {h : VH} {H : Hp} {x : SV} {v : V} {t : String} (S : Sim C X.prog X.w X.K ρ h H) (r : VR X.K ρ H x v) (e : tyNm h x = some t) : TyX X.K H v (.type t) := by
  cases x with
  | non => cases e; cases r; exact .base .non
  | bl b => cases e; cases r; exact .base (.bl b)
  | int b => cases e; cases r; exact .base (.int b)
  | str b => cases e; cases r; exact .base (.str b)
  | ty n => cases e
  | tup xs => cases e; cases r with | tup ht _ => exact ht.ty
  | loc i =>
    unfold tyNm at e
    simp only [] at e
    cases r with
    | loc ha =>
      split at e
      · rename_i g
        cases e
        obtain ⟨vs, hl, _⟩ := S.lst g ha
        exact .base (.lst hl)
      · rename_i g
        cases e
        obtain ⟨vs, hd, _⟩ := S.dk g ha
        exact .base (.dK hd)
      · cases e
theorem tyOfS_ok {ρ : List Addr} {H : Hp} {c : SV} {v : V} {n : String} (r : VR X.K ρ H c v) (e : tyOfS c = some n) : v = .ty n := by
  cases c with
  | ty m => cases e; cases r; rfl
  | _ => cases e
theorem tysOf_ok {ρ : List Addr} {H : Hp} : ∀ {cs : List SV} {vs : List V} {ns : List String}, VRs X.K ρ H cs vs → tysOf cs = some ns → Paired ClsV vs (ns.map Value.type)
  | [], _, _, .nil, e => by cases e; exact .nil
  | c :: cs, _, _, .cons rc rs, e => by
    unfold tysOf at e
    split at e
    · rename_i n en
      split at e
      · rename_i ns' ens
        cases e
        have := tyOfS_ok rc en
        subst this
        exact .cons (.ty n) (tysOf_ok rs ens)
      · cases e
    · cases e
theorem kitAnyB_ok {t : String} : ∀ {ns : List String} {b : Bool}, kitAnyB t ns = some b → PySem.W.kitAny X.K (.type t) (ns.map Value.type) = some b
  | [], b, e => by cases e; exact kitAny_nil
  | n :: ns, b, e => by
    unfold kitAnyB at e
    split at e
    · rename_i ek
      cases e
      exact kitAny_cons (kit_ty ek) (fun q => by cases q) (fun _ => rfl)
    · rename_i ek
      exact kitAny_cons (kit_ty ek) (fun _ => kitAnyB_ok e) (fun q => by cases q)
    · cases e
theorem isiP_ok : PrL C X.prog X.w X.K (rIsiAll X) isiP := by
  intro ρ h H xs vs Q S rs k
  obtain ⟨v, h', e, _⟩ := id k
  unfold isiP at e
  split at e
  · rename_i x y
    obtain _ | ⟨ra, rt⟩ := rs
    obtain _ | ⟨rb, rt⟩ := rt
    cases rt
    split at e
    · rename_i t et
      split at e
      · rename_i n en
        split at e
        · rename_i b eb
          cases e
          have := tyOfS_ok rb en
          subst this
          exact .inl ⟨_, _, _, _, b, rfl, .ty n, tyNm_ok S ra et, kit_ty eb, k.of (by unfold isiP; simp only []; rw [et]; simp only []; rw [en]; simp only []; rw [eb]) .refl S (.bl b)⟩
        · cases e
      · rename_i en
        split at e
        · rename_i cs ec
          split at e
          · rename_i ns ens
            split at e
            · rename_i b eb
              cases e
              obtain ⟨p, us, rfl, rfl, ht, ru⟩ := tupOf_ok rb ec
              exact .inr ⟨_, p, us, _, _, b, rfl, ht.sq, tysOf_ok ru ens, tyNm_ok S ra et, kitAnyB_ok eb, k.of (by unfold isiP; simp only []; rw [et]; simp only []; rw [en]; simp only []; rw [ec]; simp only []; rw [ens]; simp only []; rw [eb]) .refl S (.bl b)⟩
            · cases e
          · cases e
        · cases e
    · cases e
  · cases e
end
end Ev

namespace Ev
open PySem L2 PySem.Spec PyProof.Rows

/-! ## what is walked, its items in new tuples -/
def ItG (Y : Nat → Hp → Option (List V) → Prop) : It :=
  ⟨fun i H => ∃ vs, Y i H (some vs), fun i H v H' => ∃ T vs, v = .ref T ∧ H T = none ∧ H' = upd H T (.tup vs) ∧ ∀ vs', Y i H (some vs') → vs' = vs, fun i H => Y i H none⟩
theorem turn_G {P : Program} {w : World} {K : PySem.W.Frag} {elts : List Expr} {kk : Nat} {tpos : Pos} {z : Addr} {FP : List Addr} {tn : Nat → Heap → Prop} {Y : Nat → Hp → Option (List V) → Prop} (hm : z ∈ FP)
    (hobj : ∀ i h, tn i h → ∀ b ∈ FP, ∃ o, h.get? b = some o ∧ ∀ v, o.data ≠ .cell v) (hkeep : ∀ i h h', tn i h → (∀ b ∈ FP, ∀ o, h.get? b = some o → h'.get? b = some o) → tn i h')
    (hself : ∀ (A : Around) (i : Nat) (s : Shared) (Q : Value → Shared → Prop) (E : Value → Shared → Prop), tn i s.heap → Q (.ref z) s → wpAny (model P w) A (pyIter (.ref z)) Q E s)
    (W : ∀ (X : Cx), X.prog = P → X.w = w → X.K = K → ∀ (i : Nat) (pins : List (Addr × Obj)) (s : Shared) (σ : L2.St) (H : Hp) (vs : List V), Inv X pins σ H s → tn i s.heap → X.A.handled = none → Y i H (some vs) →
      ∃ n fp wr Pt St Mid, WalksT P w X.A z fp wr n Pt St Mid ∧ i < n ∧ St i s.heap ∧ (∀ b ∈ wr, b ∈ FP) ∧ (∀ h', St (i + 1) h' → tn (i + 1) h') ∧ (∀ vals, Pt i vals → Vals vs vals.toList) ∧ vs.length ≤ sizeLine ∧ ∀ vs', Y i H (some vs') → vs' = vs)
    (Wd : ∀ (X : Cx), X.prog = P → X.w = w → X.K = K → ∀ (i : Nat) (pins : List (Addr × Obj)) (s : Shared) (σ : L2.St) (H : Hp), Inv X pins σ H s → tn i s.heap → X.A.handled = none → Y i H none →
      ∃ n fp wr Pt St Mid, WalksT P w X.A z fp wr n Pt St Mid ∧ St n s.heap ∧ (∀ b ∈ wr, b ∈ FP)) :
    Turn P w K (.Tuple elts kk tpos) (ItG Y) FP z tn where
  mem := hm
  obj := hobj
  keep := hkeep
  item := by
    intro X hP hw hK hc i pins s σ H E I hf st hg
    obtain ⟨vs, hy⟩ := hg
    obtain ⟨n, fp, wr, Pt, St, Mid, WW, hi, hSt, hwr, hnx, hpt, hz, hu⟩ := W X hP hw hK i pins s σ H vs I st (I.ok.hd hc) hy
    subst hP hw hK
    refine WW.item i s _ E hi hSt fun T vals h' tk hp hT hTu hMid hk => ⟨.ref T, rfl, ?_⟩
    refine WW.go elts kk tpos i T _ _ E hMid fun h'' hSt' hk' => ?_
    have TnF : T ∉ FP := fun m => by
      obtain ⟨o, ho, _⟩ := hobj i _ st T m
      exact absurd (Heap.lt_size ho) (Nat.not_lt.mpr hT)
    have hTw : T ∉ wr := fun m => TnF (hwr T m)
    have hTu2 : h''.IsTuple T vals := hTu.at fun o e => hk' T o hTw e
    have new : ObjOk X.prog X.w (upd H T (.tup vs)) h'' T (.tup vs) := ⟨hz, vals.toList, hpt vals hp, by rw [Array.toArray_toList]; exact hTu2⟩
    have I1 : Inv X pins σ (upd H T (.tup vs)) { s with heap := h'', toks := tk } :=
      I.turnedNew (t' := tk) (ch := wr) (fun b o hb e => hk' b o hb (hk b o hb e)) (fun b hb => hf b (hwr b hb)) hT new
    refine ⟨.ref T, _, I1, rfl, ⟨T, vs, rfl, I.hok.fresh hT, rfl, hu⟩, hnx h'' hSt', fun b hb => ?_⟩
    rw [upd_ne (fun q => TnF (by rw [← q]; exact hb))]
    exact (hf b hb).1
  done := by
    intro X hP hw hK hc i pins s σ H E I hf st hg
    obtain ⟨n, fp, wr, Pt, St, Mid, WW, hSt, hwr⟩ := Wd X hP hw hK i pins s σ H I st (I.ok.hd hc) hg
    subst hP hw hK
    exact WW.done s _ E hSt fun h' tk hk => ⟨rfl, I.turnedL (t' := tk) (fun b o hb e => hk b o hb e) fun b hb => hf b (hwr b hb)⟩
  self := hself

/-! ### lists and tuples alike -/
def SqK (b : Bool) (K : PySem.W.Frag) (H : Hp) (a : Addr) (xs : List V) : Prop := match b with
  | true => SqL K H a xs
  | false => SqT K H a xs
def ItA (b : Bool) (h : Heap) (it a : Addr) (i : Nat) : Prop := match b with
  | true => h.IsListIter it a i
  | false => h.IsTupleIter it a i
def SqA (b : Bool) (h : Heap) (a : Addr) (its : Array Value) : Prop := match b with
  | true => h.IsList a its
  | false => h.IsTuple a its
def itO (b : Bool) (a : Addr) : Obj := match b with
  | true => { cls := .type "list_iterator", data := .fields #[.ref a, .int 0 0] }
  | false => { cls := .type "tuple_iterator", data := .fields #[.ref a, .int 0 0] }
section
variable {X : Cx} {pins : List (Addr × Obj)} {σ : L2.St} {H : Hp} {s : Shared} {b : Bool} {a it : Addr} {xs ys : List V}
theorem sq_rd (I : Inv X pins σ H s) (h : SqK b X.K H a xs) : ∃ its : List Value, Vals xs its ∧ SqA b s.heap a its.toArray ∧ xs.length ≤ sizeLine := by
  cases b with
  | true =>
    obtain ⟨its, r, p, z⟩ := I.list h
    exact ⟨its, r, p.isList, z⟩
  | false =>
    obtain ⟨its, r, p, z⟩ := I.tuple h
    exact ⟨its, r, p, z⟩
theorem sq_inj (I : Inv X pins σ H s) (h : SqK b X.K H a xs) (h' : SqK b X.K H a ys) : xs = ys := by
  cases b with
  | true => exact I.list_inj h h'
  | false => exact I.tuple_inj h h'
theorem drawsA {prog : Program} {w : World} {A : Around} (hh : A.handled = none) (hne : a ≠ it) (items : Array Value) :
    Draws prog w A it [it, a] items.size (fun i v => items[i]? = some v) (fun i h => ItA b h it a i ∧ SqA b h a items) := by
  cases b with
  | true => exact Draws.list hh it a hne items
  | false => exact Draws.tuple hh it a hne items
theorem beginsA (items : Array Value) : Begins (.ref a) (itO b a) fun h => SqA b h a items := by
  cases b with
  | true => exact begins_list a items
  | false => exact begins_tuple a items
theorem ItA.of {h : Heap} (e : h.get? it = some (itO b a)) : ItA b h it a 0 := by
  cases b with
  | true => exact ⟨_, e, rfl, rfl⟩
  | false => exact ⟨_, e, rfl, rfl⟩
theorem ItA.at {h h' : Heap} {i : Nat} (x : ItA b h it a i) (k : ∀ o, h.get? it = some o → h'.get? it = some o) : ItA b h' it a i := by
  cases b with
  | true => exact Heap.IsListIter.at x k
  | false => exact Heap.IsTupleIter.at x k
theorem ItA.obj {h : Heap} {i : Nat} (x : ItA b h it a i) : ∃ o, h.get? it = some o ∧ ∀ v, o.data ≠ .cell v := by
  cases b with
  | true =>
    obtain ⟨o, e, _, d⟩ := x
    exact ⟨o, e, fun v q => by rw [d] at q; cases q⟩
  | false =>
    obtain ⟨o, e, _, d⟩ := x
    exact ⟨o, e, fun v q => by rw [d] at q; cases q⟩
theorem SqA.lt {h : Heap} {its : Array Value} (x : SqA b h a its) : a < h.objs.size := by
  cases b with
  | true => obtain ⟨o, e, _⟩ := x; exact Heap.lt_size e
  | false => obtain ⟨o, e, _⟩ := x; exact Heap.lt_size e
end

/-! ### enumerate -/
def YE (b : Bool) (K : PySem.W.Frag) (a : Addr) (i : Nat) (H : Hp) : Option (List V) → Prop
  | some vs => ∃ xs x, SqK b K H a xs ∧ xs[i]? = some x ∧ vs = [.int (i : Nat), x]
  | none => ∃ xs : List V, SqK b K H a xs ∧ i = xs.length
theorem turn_enumA {P : Program} {w : World} {K : PySem.W.Frag} {elts : List Expr} {kk : Nat} {tpos : Pos} {b : Bool} {a e it : Addr} (h1 : e ≠ it) (h2 : e ≠ a) (h3 : a ≠ it) :
    Turn P w K (.Tuple elts kk tpos) (ItG (YE b K a)) [e, it] e (fun i h => (∃ old, IsEnum h e it ((i : Nat) : Int) old) ∧ ItA b h it a i) := by
  refine turn_G (by simp) (fun i h st c hc => ?_) (fun i h h' st k => ?_) (fun A i s Q E st hq => ?_) (fun X hP hw hK i pins s σ H vs I st hh hy => ?_) (fun X hP hw hK i pins s σ H I st hh hy => ?_)
  · obtain ⟨⟨old, he⟩, hit⟩ := st
    have e' : c = e ∨ c = it := by simpa using hc
    rcases e' with q | q
    · rw [q]; exact ⟨_, he, fun v q => nomatch q⟩
    · rw [q]; exact hit.obj
  · obtain ⟨⟨old, he⟩, hit⟩ := st
    exact ⟨⟨old, k e (by simp) _ he⟩, hit.at fun o q => k it (by simp) o q⟩
  · obtain ⟨⟨old, he⟩, hit⟩ := st
    exact wpAny_pyIter_enum he hq
  · subst hP hw hK
    obtain ⟨xs, x, hs, hx, rfl⟩ := hy
    obtain ⟨its, rv, p, hz⟩ := sq_rd I hs
    obtain ⟨⟨old, he⟩, hit⟩ := st
    obtain ⟨u, hu, ru⟩ := rv.get hx
    refine ⟨_, _, _, _, _, _, WalksT.enumFrom (it := it) (fp := [it, a]) 0 (drawsA (b := b) (A := X.A.in1) hh h3 its.toArray) e h1 (by simp [h1, h2]) (by simp), ?_, ⟨⟨old, by simpa using he⟩, hit, p⟩, fun c hc => by simpa using hc, fun h' st' => ?_, fun vals hv => ?_, by show 2 ≤ sizeLine; decide, fun vs' hy' => ?_⟩
    · have := (List.getElem?_eq_some_iff.mp hu).1
      simpa using this
    · obtain ⟨⟨old', he'⟩, hit', _⟩ := st'
      exact ⟨⟨old', by simpa using he'⟩, hit'⟩
    · obtain ⟨t, y, hy, rfl⟩ := hv
      have hy : its[i]? = some y := by simpa using hy
      rw [hu] at hy
      cases hy
      exact .cons ⟨t, by simp⟩ (.cons ru .nil)
    · obtain ⟨xs', x', hs', hx', rfl⟩ := hy'
      have := sq_inj I hs hs'
      subst this
      rw [hx] at hx'
      cases hx'
      rfl
  · subst hP hw hK
    obtain ⟨xs, hs, rfl⟩ := hy
    obtain ⟨its, rv, p, hz⟩ := sq_rd I hs
    obtain ⟨⟨old, he⟩, hit⟩ := st
    have el : its.toArray.size = xs.length := by rw [List.size_toArray]; exact rv.length.symm
    have W := WalksT.enumFrom (it := it) (fp := [it, a]) 0 (drawsA (prog := X.prog) (w := X.w) (b := b) (A := X.A.in1) hh h3 its.toArray) e h1 (by simp [h1, h2]) (by simp)
    exact ⟨_, _, _, _, _, _, W, by rw [el]; exact ⟨⟨old, by simpa using he⟩, hit, p⟩, fun c hc => by simpa using hc⟩

/-! ### zip -/
def YZ (b c : Bool) (K : PySem.W.Frag) (a d : Addr) (i : Nat) (H : Hp) : Option (List V) → Prop
  | some vs => ∃ xs ys x y, SqK b K H a xs ∧ SqK c K H d ys ∧ xs[i]? = some x ∧ ys[i]? = some y ∧ vs = [x, y]
  | none => ∃ xs ys : List V, SqK b K H a xs ∧ SqK c K H d ys ∧ i = min xs.length ys.length
theorem turn_zipG {P : Program} {w : World} {K : PySem.W.Frag} {elts : List Expr} {kk : Nat} {tpos : Pos} {b c : Bool} {a d z TI TO i1 i2 : Addr} (S : ZipSep2 z TI TO i1 i2 [i1, a] [i2, d]) (h1 : a ≠ i1) (h2 : d ≠ i2) :
    Turn P w K (.Tuple elts kk tpos) (ItG (YZ b c K a d)) [z, TI, TO, i1, i2] z (fun i h => IsZip h z TI TO .none ∧ IsTupOf2 h TI (.ref i1) (.ref i2) ∧ (∃ x y, IsTupOf2 h TO x y) ∧ ItA b h i1 a i ∧ ItA c h i2 d i) := by
  refine turn_G (by simp) (fun i h st e hc => ?_) (fun i h h' st k => ?_) (fun A i s Q E st hq => ?_) (fun X hP hw hK i pins s σ H vs I st hh hy => ?_) (fun X hP hw hK i pins s σ H I st hh hy => ?_)
  · obtain ⟨hz, hTI, ⟨x, y, hTO⟩, q1, q2⟩ := st
    have e' : e = z ∨ e = TI ∨ e = TO ∨ e = i1 ∨ e = i2 := by simpa using hc
    rcases e' with q | q | q | q | q
    · rw [q]; exact ⟨_, hz, fun v q => nomatch q⟩
    · rw [q]; exact ⟨_, hTI, fun v q => nomatch q⟩
    · rw [q]; exact ⟨_, hTO, fun v q => nomatch q⟩
    · rw [q]; exact q1.obj
    · rw [q]; exact q2.obj
  · obtain ⟨hz, hTI, ⟨x, y, hTO⟩, q1, q2⟩ := st
    exact ⟨k z (by simp) _ hz, k TI (by simp) _ hTI, ⟨x, y, k TO (by simp) _ hTO⟩, q1.at fun o q => k i1 (by simp) o q, q2.at fun o q => k i2 (by simp) o q⟩
  · exact wpAny_pyIter_zip st.1 hq
  · subst hP hw hK
    obtain ⟨xs, ys, x, y, hs, hs2, hx, hy, rfl⟩ := hy
    obtain ⟨its, rv, p, _⟩ := sq_rd I hs
    obtain ⟨its2, rv2, p2, _⟩ := sq_rd I hs2
    obtain ⟨u, hu, ru⟩ := rv.get hx
    obtain ⟨u2, hu2, ru2⟩ := rv2.get hy
    obtain ⟨hz, hTI, hTO, q1, q2⟩ := st
    refine ⟨_, _, _, _, _, _, WalksT.zipD2 S (drawsA (b := b) (A := X.A.in1) hh h1 its.toArray) (drawsA (b := c) (A := X.A.in1) hh h2 its2.toArray), ?_, ⟨hz, hTI, hTO, ⟨q1, p⟩, ⟨q2, p2⟩⟩, fun e hc => ?_, fun h' st' => ?_, fun vals hv => ?_, by show 2 ≤ sizeLine; decide, fun vs' hy' => ?_⟩
    · have e1 := (List.getElem?_eq_some_iff.mp hu).1
      have e2 := (List.getElem?_eq_some_iff.mp hu2).1
      simp only [List.size_toArray]
      omega
    · have e' : e = z ∨ e = TO ∨ e = i1 ∨ e = i2 := by simpa using hc
      rcases e' with q | q | q | q <;> simp [q]
    · obtain ⟨a1, a2, a3, a4, a5⟩ := st'
      exact ⟨a1, a2, a3, a4.1, a5.1⟩
    · obtain ⟨x1, x2, e1, e2, rfl⟩ := hv
      have e1 : its[i]? = some x1 := by simpa using e1
      have e2 : its2[i]? = some x2 := by simpa using e2
      rw [hu] at e1
      rw [hu2] at e2
      cases e1
      cases e2
      exact .cons ru (.cons ru2 .nil)
    · obtain ⟨xs', ys', x', y', f1, f2, f3, f4, rfl⟩ := hy'
      have := sq_inj I hs f1
      subst this
      have := sq_inj I hs2 f2
      subst this
      rw [hx] at f3
      rw [hy] at f4
      cases f3
      cases f4
      rfl
  · subst hP hw hK
    obtain ⟨xs, ys, hs, hs2, rfl⟩ := hy
    obtain ⟨its, rv, p, _⟩ := sq_rd I hs
    obtain ⟨its2, rv2, p2, _⟩ := sq_rd I hs2
    obtain ⟨hz, hTI, hTO, q1, q2⟩ := st
    have el : its.toArray.size = xs.length := by rw [List.size_toArray]; exact rv.length.symm
    have el2 : its2.toArray.size = ys.length := by rw [List.size_toArray]; exact rv2.length.symm
    have W := WalksT.zipD2 S (drawsA (prog := X.prog) (w := X.w) (b := b) (A := X.A.in1) hh h1 its.toArray) (drawsA (prog := X.prog) (w := X.w) (b := c) (A := X.A.in1) hh h2 its2.toArray)
    refine ⟨_, _, _, _, _, _, W, by rw [el, el2]; exact ⟨hz, hTI, hTO, ⟨q1, p⟩, ⟨q2, p2⟩⟩, fun e hc => ?_⟩
    have e' : e = z ∨ e = TO ∨ e = i1 ∨ e = i2 := by simpa using hc
    rcases e' with q | q | q | q <;> simp [q]

/-! ### d.items(), the dict locked -/
def YI (X : Cx) (d : Addr) (o : Obj) (kvs : List KX) (i : Nat) (H : Hp) : Option (List V) → Prop
  | some vs => H d = some (.frz o (DX X.prog X.w d kvs)) ∧ ∃ k, kvs[i]? = some k ∧ vs = [.ref k.2.1, k.2.2]
  | none => H d = some (.frz o (DX X.prog X.w d kvs)) ∧ i = kvs.length
theorem frz_dx {X Y : Cx} {pins : List (Addr × Obj)} {σ : L2.St} {H : Hp} {s : Shared} {d : Addr} {o : Obj} {kvs : List KX} (hP : X.prog = Y.prog) (hw : X.w = Y.w) (I : Inv X pins σ H s) (h : H d = some (.frz o (DX Y.prog Y.w d kvs))) :
    ∃ ys : List KY, XY kvs ys ∧ s.heap.get? d = some o ∧ (d == sysModules) = false ∧ o.ExactDict ∧ ∃ es ep, o.data = .dict es ep ∧ es.toList = ys.map (entryOfKey (nestedKind Y.prog Y.w)) := by
  obtain ⟨hd, hx⟩ := I.hok d _ h
  obtain ⟨z, hn, nd, ys, rel, o', es, ep, ho, ex, hdt, he⟩ := DX_raw (H := H) _ _ hx
  rw [hd] at ho
  cases ho
  exact ⟨ys, rel, hd, hn, ex, es, ep, hdt, he⟩
theorem XY_at : ∀ {kvs : List KX} {ys : List KY} {i : Nat} {k : KX}, PRel RV2 kvs ys → kvs[i]? = some k → ∃ y, ys[i]? = some y ∧ k.1 = y.1 ∧ k.2.1 = y.2.1 ∧ RelV k.2.2 y.2.2
  | _, _, _, _, .nil, h => by simp at h
  | _, _, 0, _, .cons r _, h => by simp at h; subst h; exact ⟨_, rfl, r.1, r.2.1, r.2.2⟩
  | _, _, i + 1, _, .cons _ t, h => by
    obtain ⟨y, h1, h2⟩ := XY_at t (i := i) (by simpa using h)
    exact ⟨y, by simpa using h1, h2⟩
theorem turn_itemsX {X : Cx} {elts : List Expr} {kk : Nat} {tpos : Pos} {d it : Addr} {o : Obj} {kvs : List KX} {es : Array DictEntry} {ep : Nat} (hod : o.data = .dict es ep) (hl : es.size = kvs.length) (hne : d ≠ it) :
    Turn X.prog X.w X.K (.Tuple elts kk tpos) (ItG (YI X d o kvs)) [it] it (fun i h => ∃ ok ov, IsItemIter h it d i es.size ep ok ov) := by
  refine turn_G (by simp) (fun i h st c hc => ?_) (fun i h h' st k => ?_) (fun A i s Q E st hq => ?_) (fun Y hP hw hK i pins s σ H vs I st hh hy => ?_) (fun Y hP hw hK i pins s σ H I st hh hy => ?_)
  · obtain ⟨ok, ov, e⟩ := st
    have e' : c = it := by simpa using hc
    rw [e']
    exact ⟨_, e, fun v q => nomatch q⟩
  · obtain ⟨ok, ov, e⟩ := st
    exact ⟨ok, ov, k it (by simp) _ e⟩
  · obtain ⟨ok, ov, e⟩ := st
    exact PySem.W.kcp_self e hq
  · obtain ⟨hd, k, hk, rfl⟩ := hy
    obtain ⟨ys, rel, hg, hn, ex, es', ep', hod', he⟩ := frz_dx hP hw I hd
    rw [hod] at hod'
    cases hod'
    have hi : i < es.size := by rw [hl]; exact (List.getElem?_eq_some_iff.mp hk).1
    refine ⟨_, _, _, _, _, _, WalksT.rawItems (prog := X.prog) (w := X.w) (A := Y.A) hh it d hne es ep, hi, ⟨st, ⟨o, hg, ex, hod⟩⟩, fun c hc => hc, fun h' st' => st'.1, fun vals hv => ?_, by show 2 ≤ sizeLine; decide, fun vs' hy' => ?_⟩
    · obtain ⟨hi', rfl⟩ := hv
      obtain ⟨y, hy, _, e1, e2⟩ := XY_at (XY_iff.mp rel) hk
      have e3 : es[i] = entryOfKey (nestedKind X.prog X.w) y := by
        have : es.toList[i]? = some (entryOfKey (nestedKind X.prog X.w) y) := by rw [he, List.getElem?_map, hy]; rfl
        simpa [hi] using this
      rw [e3]
      refine .cons ?_ (.cons e2 .nil)
      show Value.ref y.2.1 = .ref k.2.1
      rw [e1]
    · obtain ⟨_, k', hk', rfl⟩ := hy'
      rw [hk] at hk'
      cases hk'
      rfl
  · obtain ⟨hd, rfl⟩ := hy
    obtain ⟨ys, rel, hg, hn, ex, es', ep', hod', he⟩ := frz_dx hP hw I hd
    have W := WalksT.rawItems (prog := X.prog) (w := X.w) (A := Y.A) hh it d hne es ep
    rw [← hl] at st
    exact ⟨_, _, _, _, _, _, W, ⟨st, ⟨o, hg, ex, hod⟩⟩, fun c hc => hc⟩
end Ev

namespace EN
open PySem PySem.SeqAt
set_option maxHeartbeats 1000000 in
theorem meets_enumerate_newB1 {v : Value} {o : Obj} {H : Heap → Prop} (B : Begins v o H) :
    Meets (Builtin.«enumerate.__new__» ⟨[.type "enumerate", v], []⟩) (fun _ R s => H s.heap ∧
      R (.ok (.ret (.ref (s.heap.push o).objs.size))) { s with heap := (s.heap.push o).push { cls := .type "enumerate", data := .fields #[.none, .bool false, .ref s.heap.objs.size, rawInt 0, .none, .none] } }) :=
  .of_wp fun prog w A R s h => by
    obtain ⟨hp, g, d, tk, os⟩ := s; obtain ⟨h1, h⟩ := h
    have hsub := sub_enumerate
    have q1 : ∀ {A' : Around} {E : Value → Shared → Prop} {Q : Value → Shared → Prop}, Q (.ref hp.objs.size) ⟨hp.push o, g, d, tk, os⟩ → wpAny (model prog w) A' (pyIter v) Q E ⟨hp, g, d, tk, os⟩ :=
      fun q => B.iter prog w _ _ ⟨hp, g, d, tk, os⟩ _ h1 q
    wp_walk using q1
    refine wpAny_stack_any fun st => wpAny_pure ?_
    split
    · rename_i c _ _ _ _ _
      cases (c == Value.type "enumerate")
      · wp_walk using q1
        exact ⟨_, rfl, h⟩
      · wp_walk using q1
        exact ⟨_, rfl, h⟩
    · wp_walk using q1
      exact ⟨_, rfl, h⟩
section
variable {prog : Program} {w : World} {A : Around} {E : Value → Shared → Prop} {s : Shared}
theorem enum_begins1 {v : Value} {o : Obj} {H : Heap → Prop} {Q : Value → Shared → Prop} (B : Begins v o H) (h1 : H s.heap)
    (h : ∀ h', IsEnum h' (s.heap.objs.size + 1) s.heap.objs.size 0 .none → h'.get? s.heap.objs.size = some o → h'.objs.size = s.heap.objs.size + 2 →
      (∀ b o, s.heap.get? b = some o → h'.get? b = some o) → Q (.ref (s.heap.objs.size + 1)) { s with heap := h' }) :
    wpAny (model prog w) A (call (.type "enumerate") [v]) Q E s := by
  refine callType_new F.called_enumerate (by decide) (F.typeCall_enumerate_1 _) (F.newCall_enumerate_1 _) (fun obj => F.args_object_init_2 obj _) F.entry_enumerate_new
    (meets_enumerate_newB1 B) ⟨h1, ?_⟩
  have hz : (s.heap.push o).objs.size = s.heap.objs.size + 1 := Heap.size_push ..
  show _ ∧ _
  rw [hz]
  have he : IsEnum ((s.heap.push o).push { cls := .type "enumerate", data := .fields #[.none, .bool false, .ref s.heap.objs.size, rawInt 0, .none, .none] }) (s.heap.objs.size + 1) s.heap.objs.size 0 .none := by
    have := Heap.get?_push_size (s.heap.push o) (o := { cls := .type "enumerate", data := .fields #[.none, .bool false, .ref s.heap.objs.size, rawInt 0, .none, .none] }) rfl
    rw [hz] at this; exact this
  refine ⟨⟨_, he, rfl⟩, h _ he (Heap.get?_push_of_some _ (Heap.get?_push_size _ B.free)) (by rw [Heap.size_push, hz]) fun b o x => Heap.get?_push_of_some _ (Heap.get?_push_of_some _ x)⟩
end
end EN

namespace Ev
open PySem L2 PySem.Spec PyProof.Rows
/-! ## what a for walks -/
def iSeqA (K : PySem.W.Frag) (tl : TE) : TI := fun σ H R => tl σ H fun x H1 => ∃ a, x = .ref a ∧ (((∃ xs, SqL K H1 a xs) ∧ R (Itl K a) H1) ∨ ((∃ xs, SqT K H1 a xs) ∧ R (Itt K a) H1))
theorem pi_seqA {X : Cx} {tg l : Expr} {tl : TE} (hl : PE X l tl) : PI X tg l (iSeqA X.K tl) := by
  refine ⟨fun pins s σ H R I h => ?_⟩
  refine thn (hl.run pins s σ H _ I h) fun v s1 ⟨x, H1, I1, r1, q1⟩ => ?_
  obtain ⟨a, rfl, ⟨⟨xs, hq⟩, q⟩ | ⟨⟨xs, hq⟩, q⟩⟩ := q1
  · cases r1
    obtain ⟨its, rv, p, hz⟩ := I1.list hq
    refine wpAny_pyIter_list p.isList ?_
    refine ⟨s1.heap.objs.size, [s1.heap.objs.size], _, _, H1, rfl, I1.kept (t' := s1.toks) fun b o e => Heap.get?_push_of_some _ e, turn_list a _, ⟨_, Heap.get?_push_size _ rfl, rfl, rfl⟩, fun b hb => ?_, q⟩
    have e : b = s1.heap.objs.size := by simpa using hb
    subst e
    exact I1.fpOk (Nat.le_refl _) (I1.hok.fresh (Nat.le_refl _))
  · cases r1
    obtain ⟨its, rv, p, hz⟩ := I1.tuple hq
    refine wpAny_pyIter_tuple (show s1.heap.IsTuple a its.toArray from p) ?_
    refine ⟨s1.heap.objs.size, [s1.heap.objs.size], _, _, H1, rfl, I1.kept (t' := s1.toks) fun b o e => Heap.get?_push_of_some _ e, turn_tuple a _, ⟨_, Heap.get?_push_size _ rfl, rfl, rfl⟩, fun b hb => ?_, q⟩
    have e : b = s1.heap.objs.size := by simpa using hb
    subst e
    exact I1.fpOk (Nat.le_refl _) (I1.hok.fresh (Nat.le_refl _))
def iEnumA (K : PySem.W.Frag) (ta : TA) : TI := fun σ H R => ta σ H fun vs H1 => ∃ a b xs, vs = [.ref a] ∧ SqK b K H1 a xs ∧ R (ItG (YE b K a)) H1
theorem pi_enumA {X : Cx} {e : Expr} {ta : TA} {p pos tpos : Pos} {elts : List Expr} {kk : Nat} (hg : Gl X "enumerate") (hm : X.mg "enumerate" = none) (ha : PA X [e] ta) (hs : starEach [e] X.env = [(false, eval e X.env)] := by rfl) :
    PI X (.Tuple elts kk tpos) (.Call (.Name "enumerate" p) [e] [] pos) (iEnumA X.K ta) := by
  refine ⟨fun pins s σ H R I h => ?_⟩
  refine Call_ (ld_blt I hg hm boot_enumerate (PyProof.Rows.callWith_type1 (thn (ha.run pos pins s σ H _ I h) fun us s1 ⟨vs, H1, I1, r1, q1⟩ => ?_) hs rfl))
  obtain ⟨a, b, xs, rfl, hq, q⟩ := q1
  obtain ⟨u, rfl, e1⟩ := vals1 r1
  cases e1
  obtain ⟨its, rv, p', hz⟩ := sq_rd I1 hq
  have la : a < s1.heap.objs.size := p'.lt
  refine EN.enum_begins1 (beginsA (b := b) its.toArray) p' fun h' he hit hsz hk => wpAny_pyIter_enum he ?_
  have I2 : Inv X pins σ H1 { s1 with heap := h' } := I1.kept (t' := s1.toks) hk
  refine ⟨s1.heap.objs.size + 1, [s1.heap.objs.size + 1, s1.heap.objs.size], _, _, H1, rfl, I2, turn_enumA (b := b) (Nat.succ_ne_self _) (Nat.ne_of_gt (Nat.lt_succ_of_lt la)) (Nat.ne_of_lt la), ⟨⟨.none, he⟩, ItA.of hit⟩, fun c hc => ?_, q⟩
  have e' : c = s1.heap.objs.size + 1 ∨ c = s1.heap.objs.size := by simpa using hc
  have hle : s1.heap.objs.size ≤ c := by
    rcases e' with z | z
    · rw [z]; exact Nat.le_add_right _ _
    · rw [z]; exact Nat.le_refl _
  exact I1.fpOk hle (I1.hok.fresh hle)
def iZipG (K : PySem.W.Frag) (ta : TA) : TI := fun σ H R => ta σ H fun vs H1 => ∃ a d b c xs ys, vs = [.ref a, .ref d] ∧ SqK b K H1 a xs ∧ SqK c K H1 d ys ∧ R (ItG (YZ b c K a d)) H1
theorem pi_zipG {X : Cx} {e e2 : Expr} {ta : TA} {p pos tpos : Pos} {elts : List Expr} {kk : Nat} (hg : Gl X "zip") (hm : X.mg "zip" = none) (ha : PA X [e, e2] ta)
    (hs : starEach [e, e2] X.env = (false, eval e X.env) :: starEach [e2] X.env := by rfl) (hpl : (backTo pos (starEach [e2] X.env)).any (·.1) = false := by rfl) :
    PI X (.Tuple elts kk tpos) (.Call (.Name "zip" p) [e, e2] [] pos) (iZipG X.K ta) := by
  refine ⟨fun pins s σ H R I h => ?_⟩
  refine Call_ (ld_blt I hg hm PyProof.Rows.boot_zip (PyProof.Rows.callWith_type1 (thn (ha.run pos pins s σ H _ I h) fun us s1 ⟨vs, H1, I1, r1, q1⟩ => ?_) hs hpl))
  obtain ⟨a, d, b, c, xs, ys, rfl, hq, hq2, q⟩ := q1
  obtain ⟨u, u2, rfl, e1, e2⟩ := vals2 r1
  cases e1
  cases e2
  obtain ⟨its, rv, p1, _⟩ := sq_rd I1 hq
  obtain ⟨its2, rv2, p2, _⟩ := sq_rd I1 hq2
  have la : a < s1.heap.objs.size := p1.lt
  have ld : d < s1.heap.objs.size := p2.lt
  refine zip_begins2 (beginsA (b := b) its.toArray) (beginsA (b := c) its2.toArray) p1 p2 fun h' hz hTI hTO h1 h2 hsz hk => wpAny_pyIter_zip hz ?_
  have I2 : Inv X pins σ H1 { s1 with heap := h' } := I1.kept (t' := s1.toks) hk
  refine ⟨s1.heap.objs.size + 4, [s1.heap.objs.size + 4, s1.heap.objs.size + 2, s1.heap.objs.size + 3, s1.heap.objs.size, s1.heap.objs.size + 1], _, _, H1, rfl, I2,
    turn_zipG (b := b) (c := c) (zip_sep2 (N := s1.heap.objs.size) (fp1 := [a]) (fp2 := [d]) (fun x hx => by rw [List.mem_singleton.mp hx]; exact la) (fun x hx => by rw [List.mem_singleton.mp hx]; exact ld)) (Nat.ne_of_lt la) (Nat.ne_of_lt (Nat.lt_succ_of_lt ld)),
    ⟨hz, hTI, ⟨_, _, hTO⟩, ItA.of h1, ItA.of h2⟩, fun f hf => ?_, q⟩
  have hle : s1.heap.objs.size ≤ f := by
    have e' : f = s1.heap.objs.size + 4 ∨ f = s1.heap.objs.size + 2 ∨ f = s1.heap.objs.size + 3 ∨ f = s1.heap.objs.size ∨ f = s1.heap.objs.size + 1 := by simpa using hf
    rcases e' with z | z | z | z | z
    · rw [z]; exact Nat.le_add_right _ _
    · rw [z]; exact Nat.le_add_right _ _
    · rw [z]; exact Nat.le_add_right _ _
    · rw [z]; exact Nat.le_refl _
    · rw [z]; exact Nat.le_add_right _ _
  exact I1.fpOk hle (I1.hok.fresh hle)
def iItemsX (X : Cx) (td : TE) : TI := fun σ H R => td σ H fun x H1 => ∃ d kvs, x = .ref d ∧ DD X H1 d kvs ∧ ∀ o, R (ItG (YI X d o kvs)) (upd H1 d (.frz o (DX X.prog X.w d kvs)))
theorem pi_itemsX {X : Cx} {e : Expr} {td : TE} {apos cpos tpos : Pos} {elts : List Expr} {kk : Nat} (he : PE X e td) (hbase : attributeBase e "items" X.env (eval e X.env) = eval e X.env := by rfl) (hline : (apos.endLine == cpos.line) = true := by rfl) :
    PI X (.Tuple elts kk tpos) (.Call (.Attribute e "items" apos) [] [] cpos) (iItemsX X td) := by
  refine ⟨fun pins s σ H R I h => ?_⟩
  refine wpAny_Call_method (T := "dict") (id := "dict.items") hbase rfl hline F.plainAttrs_dict F.slot_dict_items F.type_dict_items (thn (he.run pins s σ H _ I h) fun u s1 ⟨x, H1, I1, rx, d, kvs, ex, hd, q⟩ => ?_)
  subst ex
  obtain rfl : u = Value.ref d := rx
  obtain ⟨od, I2⟩ := I1.lock hd.1 (by trivial)
  obtain ⟨ys, rel, hg, hn, ex, es, ep, hdt, hes⟩ := frz_dx rfl rfl I2 upd_same
  have hraw : s1.heap.DictRaw d es ep := ⟨od, hg, ex, hdt⟩
  have hl : es.size = kvs.length := by rw [← Array.length_toList, hes, List.length_map]; exact (PRel.length (XY_iff.mp rel)).symm
  refine ⟨hraw.typeIs, fun a ea => (by cases ea; exact ⟨od, hg, ex.2.1⟩), ?_⟩
  have I3 : Inv X pins σ (upd H1 d (.frz od (DX X.prog X.w d kvs))) { s1 with heap := s1.heap.push { cls := .type "dict_items", data := .fields #[.ref d] } } := I2.kept (t' := s1.toks) fun b ob q => Heap.get?_push_of_some _ q
  have lt : d < s1.heap.objs.size := Heap.lt_size hg
  have fin : wpAny (model X.prog X.w) X.A (pyIter (.ref s1.heap.objs.size)) (PIE X pins σ (.Tuple elts kk tpos) R) X.xe { s1 with heap := s1.heap.push { cls := .type "dict_items", data := .fields #[.ref d] } } := by
    refine wpAny_pyIter_items_raw (d := d) ⟨_, Heap.get?_push_size _ rfl, rfl, rfl⟩ (hraw.at fun o e => Heap.get?_push_of_some _ e) (pi_one (tk := s1.toks) I3 _ (turn_itemsX hdt hl ?_) ⟨.none, .none, ?_⟩ (q od))
    · show d ≠ (s1.heap.push _).objs.size
      rw [Heap.size_push]
      exact Nat.ne_of_lt (Nat.lt_succ_of_lt lt)
    · exact Heap.get?_push_size _ rfl
  show wpAny _ _ (callWith cpos (.builtin "dict.items") [.ref d] [] []) _ X.xe s1
  exact method_meetsIn F.slot_dict_items F.entry_dict_items rfl (PySem.evalArgs_none ⟨rfl, hraw.typeIs, F.args_dict_items_1 _, _, meets_dict_items_raw d hn, ⟨es, ep, hraw⟩, fin⟩)

/-! ## .. by values -/
def vsq (h : VH) : SV → Option VSq
  | .tup xs => some (.tup xs)
  | .loc i => match h.get i with
    | some (.lst _) => some (.lst i)
    | _ => none
  | _ => none
def evSeqI (fa : EF) : IF := fun l h => match fa l h with
  | some (a, h1) => (match vsq h1 a with
    | some s => some (.seq s, h1)
    | none => none)
  | none => none
def evEnumI (fs : AF) : IF := fun l h => match fs l h with
  | some ([a], h1) => (match vsq h1 a with
    | some s => some (.enum s, h1)
    | none => none)
  | _ => none
def evZipI (fs : AF) : IF := fun l h => match fs l h with
  | some ([a, b], h1) => (match vsq h1 a with
    | some s => (match vsq h1 b with
      | some t => some (.zip s t, h1)
      | none => none)
    | none => none)
  | _ => none
def evItemsI (fa : EF) : IF := fun l h => match fa l h with
  | some (.loc i, h1) => (match h1.get i with
    | some (.dt kvs) => some (.pairs (kvs.map fun p => (svK p.1, p.2)), h1.put i .fz)
    | _ => none)
  | _ => none
def VSq.isL : VSq → Bool
  | .lst _ => true
  | .tup _ => false
def VSq.sv : VSq → SV
  | .lst i => .loc i
  | .tup xs => .tup xs
section
variable {C : Bd} {P : Program} {w : World} {K : PySem.W.Frag} {ρ : List Addr} {h : VH} {H : Hp}
theorem vsq_ok (S : Sim C P w K ρ h H) {x : SV} {v : V} {s : VSq} (r : VR K ρ H x v) (e : vsq h x = some s) : x = s.sv ∧ ∃ a xs, v = .ref a ∧ SqK s.isL K H a xs := by
  cases x with
  | tup xs =>
    cases e
    cases r with
    | tup ht rs => exact ⟨rfl, _, _, rfl, ht.sq⟩
  | loc i =>
    unfold vsq at e
    simp only [] at e
    split at e
    · rename_i ys g
      cases e
      cases r with
      | loc ha =>
        obtain ⟨vs, hl, rs⟩ := S.lst g ha
        exact ⟨rfl, _, vs, rfl, SqL.of hl⟩
    · cases e
  | _ => cases e
theorem atE_some {xs : List SV} {k : Nat} {x : SV} (e : atE xs k = some (some x)) : xs[k]? = some x := by
  unfold atE at e
  split at e
  · rename_i h
    cases e
    exact h
  · split at e <;> cases e
theorem atE_none {xs : List SV} {k : Nat} (e : atE xs k = some none) : k = xs.length := by
  unfold atE at e
  split at e
  · cases e
  · split at e
    · rename_i h
      exact Nat.eq_of_beq_eq_true h
    · cases e
theorem atE_le {xs : List SV} {k : Nat} {o : Option SV} (e : atE xs k = some o) : k ≤ xs.length := by
  cases o with
  | some x => exact Nat.le_of_lt (List.getElem?_eq_some_iff.mp (atE_some e)).1
  | none => exact Nat.le_of_eq (atE_none e)
theorem sqAt_ok (S : Sim C P w K ρ h H) {s : VSq} {a : Addr} (r : VR K ρ H s.sv (.ref a)) {k : Nat} {o : Option SV} (e : sqAt s k h = some o) : ∃ xs vs, SqK s.isL K H a vs ∧ VRs K ρ H xs vs ∧ atE xs k = some o := by
  cases s with
  | tup xs =>
    cases r with
    | tup ht rs => exact ⟨xs, _, ht.sq, rs, e⟩
  | lst i =>
    unfold sqAt at e
    simp only [] at e
    split at e
    · rename_i xs g
      cases r with
      | loc ha =>
        obtain ⟨vs, hl, rs⟩ := S.lst g ha
        exact ⟨xs, vs, SqL.of hl, rs, e⟩
    · cases e
theorem itR_seq {s : VSq} {a : Addr} (r : VR K ρ H s.sv (.ref a)) : ItR C P w K ρ H (.seq s) (match s.isL with | true => Itl K a | false => Itt K a) := by
  intro ρ1 h1 H1 x1 S1 k
  have r1 := r.mono x1
  refine ⟨fun e => ?_, fun v e => ?_⟩
  · obtain ⟨xs, vs, hs, rs, e1⟩ := sqAt_ok S1 r1 (show sqAt s k h1 = some none from e)
    have := atE_none e1
    cases hb : s.isL with
    | true =>
      rw [hb] at hs
      exact ⟨vs, hs, by rw [← rs.length]; omega⟩
    | false =>
      rw [hb] at hs
      exact ⟨vs, hs, by rw [← rs.length]; omega⟩
  · obtain ⟨xs, vs, hs, rs, e1⟩ := sqAt_ok S1 r1 (show sqAt s k h1 = some (some v) from e)
    obtain ⟨u, hu, ru⟩ := rs.get (atE_some e1)
    cases hb : s.isL with
    | true =>
      rw [hb] at hs
      refine ⟨⟨vs, u, hs, hu⟩, fun x H' y => ?_⟩
      obtain ⟨rfl, hy⟩ := y
      have := hy vs hs
      rw [hu] at this
      cases this
      exact ⟨.refl, S1, ru⟩
    | false =>
      rw [hb] at hs
      refine ⟨⟨vs, u, hs, hu⟩, fun x H' y => ?_⟩
      obtain ⟨rfl, hy⟩ := y
      have := hy vs hs
      rw [hu] at this
      cases this
      exact ⟨.refl, S1, ru⟩
theorem yldG {Y : Nat → Hp → Option (List V) → Prop} {k : Nat} {vs : List V} {xs : List SV} {x : V} {H' : Hp} (S : Sim C P w K ρ h H) (hy : Y k H (some vs)) (rs : VRs K ρ H xs vs) (y : (ItG Y).yld k H x H') :
    Ext K ρ H ρ H' ∧ Sim C P w K ρ h H' ∧ ∃ p us ws, SV.tup xs = .tup us ∧ x = .ref p ∧ SqT K H' p ws ∧ VRs K ρ H' us ws := by
  obtain ⟨T, ws, rfl, hT, rfl, hu⟩ := y
  have e := hu vs hy
  subst e
  have E : Ext K ρ H ρ (upd H T (.tup vs)) := Ext.fresh hT
  exact ⟨E, S.fresh hT, T, xs, vs, rfl, rfl, .inl (.inl upd_same), rs.mono E⟩
theorem itR_enum {s : VSq} {a : Addr} (r : VR K ρ H s.sv (.ref a)) : ItR C P w K ρ H (.enum s) (ItG (YE s.isL K a)) := by
  intro ρ1 h1 H1 x1 S1 k
  have r1 := r.mono x1
  refine ⟨fun e => ?_, fun v e => ?_⟩
  · unfold nextV at e
    simp only [] at e
    split at e
    · cases e
    · rename_i es
      obtain ⟨xs, vs, hs, rs, e1⟩ := sqAt_ok S1 r1 es
      exact ⟨vs, hs, by rw [← rs.length]; exact atE_none e1⟩
    · cases e
  · unfold nextV at e
    simp only [] at e
    split at e
    · rename_i x es
      cases e
      obtain ⟨xs, vs, hs, rs, e1⟩ := sqAt_ok S1 r1 es
      obtain ⟨u, hu, ru⟩ := rs.get (atE_some e1)
      have hy : YE s.isL K a k H1 (some [.int (k : Nat), u]) := ⟨vs, u, hs, hu, rfl⟩
      exact ⟨⟨_, hy⟩, fun x H' y => yldG S1 hy (.cons (.int _) (.cons ru .nil)) y⟩
    · cases e
    · cases e
theorem itR_zip {s t : VSq} {a d : Addr} (r : VR K ρ H s.sv (.ref a)) (r2 : VR K ρ H t.sv (.ref d)) : ItR C P w K ρ H (.zip s t) (ItG (YZ s.isL t.isL K a d)) := by
  intro ρ1 h1 H1 x1 S1 k
  have q1 := r.mono x1
  have q2 := r2.mono x1
  refine ⟨fun e => ?_, fun v e => ?_⟩
  · unfold nextV at e
    simp only [] at e
    split at e
    · rename_i x es
      split at e
      · cases e
      · rename_i et
        obtain ⟨xs, vs, hs, rs, e1⟩ := sqAt_ok S1 q1 es
        obtain ⟨ys, ws, ht, rt, e2⟩ := sqAt_ok S1 q2 et
        refine ⟨vs, ws, hs, ht, ?_⟩
        have := atE_le e1
        have := atE_none e2
        rw [← rs.length, ← rt.length]
        omega
      · cases e
    · rename_i es
      split at e
      · rename_i o et
        obtain ⟨xs, vs, hs, rs, e1⟩ := sqAt_ok S1 q1 es
        obtain ⟨ys, ws, ht, rt, e2⟩ := sqAt_ok S1 q2 et
        refine ⟨vs, ws, hs, ht, ?_⟩
        have := atE_none e1
        have := atE_le e2
        rw [← rs.length, ← rt.length]
        omega
      · cases e
    · cases e
  · unfold nextV at e
    simp only [] at e
    split at e
    · rename_i x es
      split at e
      · rename_i y et
        cases e
        obtain ⟨xs, vs, hs, rs, e1⟩ := sqAt_ok S1 q1 es
        obtain ⟨ys, ws, ht, rt, e2⟩ := sqAt_ok S1 q2 et
        obtain ⟨u, hu, ru⟩ := rs.get (atE_some e1)
        obtain ⟨u2, hu2, ru2⟩ := rt.get (atE_some e2)
        have hy : YZ s.isL t.isL K a d k H1 (some [u, u2]) := ⟨vs, ws, u, u2, hs, ht, hu, hu2, rfl⟩
        exact ⟨⟨_, hy⟩, fun x H' y => yldG S1 hy (.cons ru (.cons ru2 .nil)) y⟩
      · cases e
      · cases e
    · split at e <;> cases e
    · cases e
end
section
variable {X : Cx} {C : Bd} {σ : L2.St} {H : Hp} {R : It → Hp → Prop}
theorem iSeq_ev {fa : EF} (q : tIv C X.prog X.w X.K (evSeqI fa) σ H R) : iSeqA X.K (tEv C X.prog X.w X.K fa) σ H R := by
  obtain ⟨ρ, l, h, S, L, it, h', e, k⟩ := q
  unfold evSeqI at e
  split at e
  · rename_i a h1 ea
    split at e
    · rename_i s es
      cases e
      refine ⟨ρ, l, h, S, L, a, _, ea, fun ρ1 H1 a' x1 S1 ra => ?_⟩
      obtain ⟨rfl, p, xs, rfl, hs⟩ := vsq_ok S1 ra es
      have kk := k ρ1 H1 _ x1 S1 (itR_seq ra)
      refine ⟨p, rfl, ?_⟩
      cases hb : s.isL with
      | true => rw [hb] at hs kk; exact .inl ⟨⟨xs, hs⟩, kk⟩
      | false => rw [hb] at hs kk; exact .inr ⟨⟨xs, hs⟩, kk⟩
    · cases e
  · cases e
theorem iEnum_ev {fs : AF} (q : tIv C X.prog X.w X.K (evEnumI fs) σ H R) : iEnumA X.K (tAv C X.prog X.w X.K fs) σ H R := by
  obtain ⟨ρ, l, h, S, L, it, h', e, k⟩ := q
  unfold evEnumI at e
  split at e
  · rename_i a h1 ea
    split at e
    · rename_i s es
      cases e
      refine ⟨ρ, l, h, S, L, [a], _, ea, fun ρ1 H1 vs x1 S1 ra => ?_⟩
      obtain _ | ⟨ra, rt⟩ := ra
      cases rt
      obtain ⟨rfl, p, xs, rfl, hs⟩ := vsq_ok S1 ra es
      exact ⟨p, _, xs, rfl, hs, k ρ1 H1 _ x1 S1 (itR_enum ra)⟩
    · cases e
  · cases e
theorem iZip_ev {fs : AF} (q : tIv C X.prog X.w X.K (evZipI fs) σ H R) : iZipG X.K (tAv C X.prog X.w X.K fs) σ H R := by
  obtain ⟨ρ, l, h, S, L, it, h', e, k⟩ := q
  unfold evZipI at e
  split at e
  · rename_i a b h1 ea
    split at e
    · rename_i s es
      split at e
      · rename_i t et
        cases e
        refine ⟨ρ, l, h, S, L, [a, b], _, ea, fun ρ1 H1 vs x1 S1 ra => ?_⟩
        obtain _ | ⟨ra, rt⟩ := ra
        obtain _ | ⟨rb, rt⟩ := rt
        cases rt
        obtain ⟨rfl, p, xs, rfl, hs⟩ := vsq_ok S1 ra es
        obtain ⟨rfl, p2, ys, rfl, ht⟩ := vsq_ok S1 rb et
        exact ⟨p, p2, _, _, xs, ys, rfl, hs, ht, k ρ1 H1 _ x1 S1 (itR_zip ra rb)⟩
      · cases e
    · cases e
  · cases e
theorem PRel.get {κ β γ : Type} {R : β → γ → Prop} : ∀ {xs : List (κ × β)} {ys : List (κ × γ)} {i : Nat} {p : κ × β}, PRel R xs ys → xs[i]? = some p → ∃ q, ys[i]? = some q ∧ p.1 = q.1 ∧ R p.2 q.2
  | _, _, _, _, .nil, h => by simp at h
  | _, _, 0, _, .cons r _, h => by simp at h; subst h; exact ⟨_, rfl, r.1, r.2⟩
  | _, _, i + 1, _, .cons _ t, h => by
    obtain ⟨y, h1, h2⟩ := PRel.get t (i := i) (by simpa using h)
    exact ⟨y, by simpa using h1, h2⟩
theorem KOk.open_ {ρ : List Addr} {k : NestedKey} {p : Addr} (q : KOk X.K H k p) : VR X.K ρ H (svK k) (.ref p) := q.1.open_
theorem iItems_ev {fa : EF} (q : tIv C X.prog X.w X.K (evItemsI fa) σ H R) : iItemsX X (tEv C X.prog X.w X.K fa) σ H R := by
  obtain ⟨ρ, l, h, S, L, it, h', e, k⟩ := q
  unfold evItemsI at e
  split at e
  · rename_i i h1 ea
    split at e
    · rename_i kvs g
      cases e
      refine ⟨ρ, l, h, S, L, .loc i, h1, ea, fun ρ1 H1 a' x1 S1 ra => ?_⟩
      cases ra with
      | @loc _ d ha =>
        obtain ⟨vs, hd, rel⟩ := S1.dt g ha
        refine ⟨d, vs, rfl, hd, fun o => ?_⟩
        have m : Mut (H1 d) := by rw [hd.1]; trivial
        obtain ⟨E, S2⟩ := S1.write (o := .frz o (DX X.prog X.w d vs)) (vo := .fz) ha m (.fz upd_same)
        refine k ρ1 _ _ (x1.trans E) S2 fun ρ2 h2 H2 x2 S3 kk => ?_
        have hf : H2 d = some (.frz o (DX X.prog X.w d vs)) := x2.frz _ _ _ upd_same
        have x12 : Ext X.K ρ1 H1 ρ2 H2 := E.trans x2
        refine ⟨fun e => ?_, fun v e => ?_⟩
        · unfold nextV at e
          simp only [] at e
          split at e
          · cases e
          · split at e
            · rename_i hb
              refine ⟨hf, ?_⟩
              have := Nat.eq_of_beq_eq_true hb
              rw [List.length_map, rel.length] at this
              exact this
            · cases e
        · unfold nextV at e
          simp only [] at e
          split at e
          · rename_i x y en
            cases e
            rw [List.getElem?_map] at en
            cases e2 : kvs[kk]? with
            | none => rw [e2] at en; cases en
            | some p =>
              rw [e2] at en
              cases en
              obtain ⟨q, hq, e3, rq⟩ := PRel.get rel e2
              have hy : YI X d o vs kk H2 (some [.ref q.2.1, q.2.2]) := ⟨hf, q, hq, rfl⟩
              refine ⟨⟨_, hy⟩, fun x H' y => yldG S3 hy (.cons ?_ (.cons (rq.mono x12) .nil)) y⟩
              rw [e3]
              exact ((hd.2 q (List.mem_of_getElem? hq)).mono x12).open_
          · split at e <;> cases e
    · cases e
  · cases e
end
end Ev

namespace Ev
open PySem L2 PySem.Spec PyProof.Rows

/-! ## the rules, by values -/
section
variable (C : Bd) (X : Cx)
abbrev GE (e : Expr) (f : EF) : Prop := PE X e (tEv C X.prog X.w X.K f)
abbrev GT (e : Expr) (f : TF') : Prop := PT X e (tTv C X.prog X.w X.K f)
abbrev GW (e : Expr) (f : TF') : Prop := PW X e (tTv C X.prog X.w X.K f)
abbrev GA (e : List Expr) (f : AF) : Prop := PA X e (tAv C X.prog X.w X.K f)
abbrev GS (e : Stmt) (f : SF) : Prop := PS X e (tSv C X.prog X.w X.K f)
abbrev GSs (e : List Stmt) (f : SF) : Prop := PSs X e (tSv C X.prog X.w X.K f)
abbrev GI (tg e : Expr) (f : IF) : Prop := PI X tg e (tIv C X.prog X.w X.K f)
end
section
variable {C : Bd} {X : Cx}
theorem PI.imp {tg e : Expr} {t t' : TI} (h : PI X tg e t) (i : ∀ σ H R, t' σ H R → t σ H R) : PI X tg e t' := ⟨fun pins s σ H R I q => h.run pins s σ H R I (i σ H R q)⟩
theorem PTs.imp {e : List Expr} {t t' : TT} (h : PTs X e t) (i : ∀ σ H Q, t' σ H Q → t σ H Q) : PTs X e t' := ⟨fun pins s σ H Q I q => h.run pins s σ H Q I (i σ H Q q)⟩
def evNo : EF := fun _ _ => none
def evNoT : TF' := fun _ _ => none
def evNoS : SF := fun _ _ => none
def evYes : TF' := fun _ h => some (true, h)
theorem xNo {e : Expr} : GE C X e evNo := ⟨fun pins s σ H Q I q => by obtain ⟨_, _, _, _, _, _, _, e, _⟩ := q; cases e⟩
theorem xNoT {e : Expr} : GT C X e evNoT := ⟨fun pins s σ H Q I q => by obtain ⟨_, _, _, _, _, _, _, e, _⟩ := q; cases e⟩
theorem sNo {e : Stmt} : GS C X e evNoS := ⟨fun pins s σ H D I q => by obtain ⟨_, _, _, _, _, ⟨_, _, e, _⟩ | ⟨_, _, e, _⟩⟩ := q <;> cases e⟩
theorem ssNo {e : List Stmt} : GSs C X e evNoS := ⟨fun pins s σ H D I q => by obtain ⟨_, _, _, _, _, ⟨_, _, e, _⟩ | ⟨_, _, e, _⟩⟩ := q <;> cases e⟩

/-! expressions -/
section
variable {a b c e : Expr} {es : List Expr} {fa fb fc : EF} {fs : AF} {ft fu : TF'} {pos p p2 apos cpos : Pos}
theorem xVar (i : Nat) {x : Str} (hN : X.N[i]? = some x := by rfl) (hv : Vis X.env.scope x := by first | exact Or.inl rfl | exact Or.inr (Or.inl rfl) | exact Or.inr (Or.inr rfl)) (hd : (x == ("__debug__" : Str)) = false := by decide) (hcd : (x == ("__classdict__" : Str)) = false := by decide) : GE C X (.Name x pos) (evVar i) :=
  PE.imp (pe_var hN hv hd hcd) fun _ _ _ => tVar_ev
theorem xInt {i : Int} {k : Nat} : GE C X (.Constant (.int i) k pos) (evC (.int i)) := PE.imp pe_int fun _ _ _ => tC_ev fun _ _ => .int i
theorem xStr {x : Str} {k : Nat} : GE C X (.Constant (.str x) k pos) (evC (.str x)) := PE.imp pe_str fun _ _ _ => tC_ev fun _ _ => .str x
theorem xBl {x : Bool} {k : Nat} : GE C X (.Constant (.bool x) k pos) (evC (.bl x)) := PE.imp pe_bl fun _ _ _ => tC_ev fun _ _ => .bl x
theorem xNon {k : Nat} : GE C X (.Constant .none k pos) (evC .non) := PE.imp pe_non fun _ _ _ => tC_ev fun _ _ => .non
theorem xTy {x : Str} {n : String} (hm : X.mg x = none) (hv : bootBuiltins x = some (.type n)) (hg : Gl X x := by rfl) (hn : x ≠ "__name__" := by decide) (hd : (x == ("__debug__" : Str)) = false := by decide) : GE C X (.Name x pos) (evC (.ty n)) :=
  PE.imp (pe_bltn (v := .ty n) hg hm hv rfl hn hd) fun _ _ _ => tC_ev fun _ _ => .ty n
/-- a module's text -/
theorem xGStr {x y : Str} (hm : ∃ t, X.mg x = some (.str y t)) (hg : Gl X x := by rfl) (hd : (x == ("__debug__" : Str)) = false := by decide) : GE C X (.Name x pos) (evC (.str y)) := by
  obtain ⟨t, hm⟩ := hm
  exact PE.imp (pe_glob (v := .str y) hg hm ⟨t, rfl⟩ hd) fun _ _ _ => tC_ev fun _ _ => .str y
/-- a module's tuple of texts -/
theorem xGTup {x : Str} {ys : List Str} {ad : Addr} (hm : X.mg x = some (.ref ad)) (ht : ∀ H : Hp, TF X.K H ad (ys.map V.str)) (hg : Gl X x := by rfl) (hd : (x == ("__debug__" : Str)) = false := by decide) : GE C X (.Name x pos) (evC (.tup (ys.map SV.str))) :=
  PE.imp (pe_glob (v := .ref ad) hg hm rfl hd) fun _ _ _ => tC_ev fun _ H => .tup (ht H) (VRs.strs ys)
theorem aNil : GA C X [] evNil := PA.imp pa_nil fun _ _ _ => tNil_ev
theorem aCons (ha : GE C X e fa) (hs : GA C X es fs) (h : starEach (e :: es) X.env = (false, eval e X.env) :: starEach es X.env := by rfl) : GA C X (e :: es) (evCons fa fs) :=
  PA.imp (pa_cons ha hs h) fun _ _ _ => tCons_ev
theorem xTup {k : Nat} (h : GA C X es fs) : GE C X (.Tuple es k pos) (evArgs mkTup fs) := PE.imp (pe_tupF h) fun _ _ _ => tTupF_ev
theorem xLst (h : GA C X es fs) : GE C X (.List es pos) (evArgs mkLst fs) := PE.imp (pe_lst h) fun _ _ _ => tLst_ev
theorem xAdd (ha : GE C X a fa) (hb : GE C X b fb) : GE C X (.BinOp a .Add b pos) (evBin addV fa fb) := PE.imp (pe_op op_addA ha hb) fun _ _ _ => tOp_ev addV_ok
theorem xCmp {op : CmpOp} {r : R2} {pr : SV → SV → VH → EvR} (ho : OpR X (compareOp op) r) (hp : Pr2 C X.prog X.w X.K r pr) (ha : GE C X a fa) (hb : GE C X b fb) (hm : behindInMarks op b = false := by rfl) : GE C X (.Compare a [op] [b] pos) (evBin pr fa fb) :=
  PE.imp (pe_cmpR ho ha hb hm) fun _ _ _ => tOp_ev hp
theorem xIx (hu : X.A.units + 9 < cLine) (ha : GE C X a fa) (hb : GE C X b fb) (hs : PlainIx b := by exact fun _ _ => rfl) : GE C X (.Subscript a b pos) (evBin ixAll fa fb) := PE.imp (pe_ix (ix_all hu) ha hb hs) fun _ _ _ => tOp_ev ixAll_ok
theorem xCallB {x : Str} {id : String} {r : List V → Hp → VK → Prop} {pr : List SV → VH → EvR} (hc : CallR X (.builtin id) r) (hp : PrL C X.prog X.w X.K r pr) (hm : X.mg x = none) (hv : bootBuiltins x = some (.builtin id)) (ha : GA C X (e :: es) fs) (hg : Gl X x := by rfl) (hn : x ≠ "__name__" := by decide) (hdb : (x == ("__debug__" : Str)) = false := by decide)
    (he : starEach (e :: es) X.env = (false, eval e X.env) :: starEach es X.env := by rfl) (hpl : (backTo pos (starEach es X.env)).any (·.1) = false := by rfl) : GE C X (.Call (.Name x p) (e :: es) [] pos) (evArgs pr fs) :=
  PE.imp (pe_callB hc hg hm hv ha hn hdb he hpl) fun _ _ _ => tCB_ev hp
theorem xCallT {x : Str} {T : String} {r : List V → Hp → VK → Prop} {pr : List SV → VH → EvR} (hc : CallR X (.type T) r) (hp : PrL C X.prog X.w X.K r pr) (hm : X.mg x = none) (hv : bootBuiltins x = some (.type T)) (ha : GA C X (e :: es) fs) (hg : Gl X x := by rfl) (hn : x ≠ "__name__" := by decide) (hdb : (x == ("__debug__" : Str)) = false := by decide)
    (he : starEach (e :: es) X.env = (false, eval e X.env) :: starEach es X.env := by rfl) (hpl : (backTo pos (starEach es X.env)).any (·.1) = false := by rfl) : GE C X (.Call (.Name x p) (e :: es) [] pos) (evArgs pr fs) :=
  PE.imp (pe_callTy hc hg hm hv ha hn hdb he hpl) fun _ _ _ => tCB_ev hp
theorem xOfZip {x : Str} {T : String} {e1 e2 : Expr} {p1 p2 p3 p4 : Pos} {r : List V → Hp → VK → Prop} {pr : List SV → VH → EvR} (hr : ZipR X T r) (hp : PrL C X.prog X.w X.K r pr) (hm : X.mg x = none) (hv : bootBuiltins x = some (.type T)) (hmz : X.mg "zip" = none) (ha : GA C X [e1, e2] fs) (hg : Gl X x := by rfl) (hgz : Gl X "zip" := by rfl)
    (hn : x ≠ "__name__" := by decide) (hdb : (x == ("__debug__" : Str)) = false := by decide)
    (hs : starEach [e1, e2] X.env = (false, eval e1 X.env) :: starEach [e2] X.env := by rfl) (hpl : (backTo p3 (starEach [e2] X.env)).any (·.1) = false := by rfl)
    (na : starEach [.Call (.Name "zip" p2) [e1, e2] [] p3] X.env = (false, eval (.Call (.Name "zip" p2) [e1, e2] [] p3) X.env) :: starEach [] X.env := by rfl) : GE C X (.Call (.Name x p1) [.Call (.Name "zip" p2) [e1, e2] [] p3] [] p4) (evArgs pr fs) :=
  PE.imp (pe_ofZip hr hg hm hv hgz hmz ha hn hdb hs hpl na) fun _ _ _ => tCB_ev hp
theorem xMeth {name : Str} {id : String} {kd : Kd} {r : V → List V → Hp → VK → Prop} {pr : SV → List SV → VH → EvR} (pa : PlainAttrs kd.nm) (slot : Slot kd.nm name id) (hty : typeOf (.builtin id) = pure (.type "method_descriptor")) (hm : MtR X id r) (hp : PrM C X.prog X.w X.K r pr) (ho : GE C X a fa) (ha : GA C X (e :: es) fs)
    (hbase : attributeBase a name X.env (eval a X.env) = eval a X.env := by rfl)
    (hfew : ((backTo cpos (starEach (e :: es) X.env)).all (fun x => !x.1) && (backToKw cpos (keywordEach [] X.env)).all (fun x => x.1.isSome)
      && decide ((e :: es).length + ([] : List Keyword).length + (if ([] : List Keyword).isEmpty then 0 else 1) < 30)) = true := by rfl)
    (hline : (apos.endLine == cpos.line) = true := by rfl) (hs : starEach (e :: es) X.env = (false, eval e X.env) :: starEach es X.env := by rfl) (hplain : (backTo cpos (starEach es X.env)).any (·.1) = false := by rfl) :
    GE C X (.Call (.Attribute a name apos) (e :: es) [] cpos) (evMethK kd pr fa fs) :=
  PE.imp (pe_bmW pa slot hty hm ho ha hbase hfew hline hs hplain) fun _ _ _ => tBMW_ev hp
theorem xMeth0 {name : Str} {id : String} {kd : Kd} {r : V → List V → Hp → VK → Prop} {pr : SV → List SV → VH → EvR} (pa : PlainAttrs kd.nm) (slot : Slot kd.nm name id) (hty : typeOf (.builtin id) = pure (.type "method_descriptor")) (hm : MtR X id r) (hp : PrM C X.prog X.w X.K r pr) (ho : GE C X a fa)
    (hbase : attributeBase a name X.env (eval a X.env) = eval a X.env := by rfl) (hline : (apos.endLine == cpos.line) = true := by rfl) :
    GE C X (.Call (.Attribute a name apos) [] [] cpos) (evMethK kd pr fa evNil) :=
  PE.imp (pe_bm0W pa slot hty hm ho hbase hline) fun _ _ _ q => by
    obtain ⟨ρ, l, h, S, L, v, h', e, k⟩ := tBMW_ev hp q
    refine ⟨ρ, l, h, S, L, v, h', e, fun ρ1 H1 a' x1 S1 ra => ?_⟩
    obtain ⟨h1, h2⟩ := k ρ1 H1 a' x1 S1 ra
    exact ⟨h1, tNil_ev h2⟩
/-! slices -/
def evSl (lo hi : Option EF) (fa : EF) : EF := fun l h => match fa l h with
  | some (a, h1) => (match (match lo with
      | none => some (none, h1)
      | some f => match f l h1 with
        | some (.int i, h2) => some (some i, h2)
        | _ => none : Option (Option Int × VH)) with
    | some (i, h2) => (match (match hi with
        | none => some (none, h2)
        | some f => match f l h2 with
          | some (.int j, h3) => some (some j, h3)
          | _ => none : Option (Option Int × VH)) with
      | some (j, h3) => slP a i j h3
      | none => none)
    | none => none)
  | none => none
theorem xSl0 {p2 : Pos} {lo : Expr} {flo : EF} (ha : GE C X a fa) (hl : GE C X lo flo) : GE C X (.Subscript a (.Slice (some lo) none none p2) pos) (evSl (some flo) none fa) := by
  refine PE.imp (pe_slice sl_all ha (po_some hl) po_none) fun σ H Q q => ?_
  obtain ⟨ρ, l, h, S, L, v, h', e, k⟩ := q
  unfold evSl at e
  split at e
  · rename_i x h1 e1
    refine ⟨ρ, l, h, S, L, x, h1, e1, fun ρ1 H1 x' x1 S1 rx => ?_⟩
    split at e
    · rename_i o h2 e2
      simp only [] at e2
      split at e2
      · rename_i i h2' e3
        cases e2
        refine ⟨ρ1, l, h1, S1, L.mono x1, _, _, e3, fun ρ2 H2 y x2 S2 ry => ?_⟩
        cases ry
        refine ⟨_, rfl, ?_⟩
        refine slP_ok S2 (rx.mono x2) ⟨v, h', e, fun ρ3 H3 v3 x3 S3 r3 => k ρ3 H3 v3 ((x1.trans x2).trans x3) S3 r3⟩
      · cases e2
    · cases e
  · cases e
theorem xSl1 {p2 : Pos} {hi : Expr} {fhi : EF} (ha : GE C X a fa) (hl : GE C X hi fhi) : GE C X (.Subscript a (.Slice none (some hi) none p2) pos) (evSl none (some fhi) fa) := by
  refine PE.imp (pe_slice sl_all ha po_none (po_some hl)) fun σ H Q q => ?_
  obtain ⟨ρ, l, h, S, L, v, h', e, k⟩ := q
  unfold evSl at e
  split at e
  · rename_i x h1 e1
    refine ⟨ρ, l, h, S, L, x, h1, e1, fun ρ1 H1 x' x1 S1 rx => ?_⟩
    simp only [] at e
    split at e
    · rename_i o h2 e2
      split at e2
      · rename_i i h2' e3
        cases e2
        refine ⟨ρ1, l, h1, S1, L.mono x1, _, _, e3, fun ρ2 H2 y x2 S2 ry => ?_⟩
        cases ry
        refine ⟨_, rfl, ?_⟩
        exact slP_ok S2 (rx.mono x2) ⟨v, h', e, fun ρ3 H3 v3 x3 S3 r3 => k ρ3 H3 v3 ((x1.trans x2).trans x3) S3 r3⟩
      · cases e2
    · cases e
  · cases e
theorem xSl2 {p2 : Pos} {lo hi : Expr} {flo fhi : EF} (ha : GE C X a fa) (hl : GE C X lo flo) (hh : GE C X hi fhi) : GE C X (.Subscript a (.Slice (some lo) (some hi) none p2) pos) (evSl (some flo) (some fhi) fa) := by
  refine PE.imp (pe_slice sl_all ha (po_some hl) (po_some hh)) fun σ H Q q => ?_
  obtain ⟨ρ, l, h, S, L, v, h', e, k⟩ := q
  unfold evSl at e
  split at e
  · rename_i x h1 e1
    refine ⟨ρ, l, h, S, L, x, h1, e1, fun ρ1 H1 x' x1 S1 rx => ?_⟩
    split at e
    · rename_i o h2 e2
      simp only [] at e2
      split at e2
      · rename_i i h2' e3
        cases e2
        refine ⟨ρ1, l, h1, S1, L.mono x1, _, _, e3, fun ρ2 H2 y x2 S2 ry => ?_⟩
        cases ry
        refine ⟨_, rfl, ?_⟩
        split at e
        · rename_i o2 h3 e4
          simp only [] at e4
          split at e4
          · rename_i j h3' e5
            cases e4
            refine ⟨ρ2, l, _, S2, (L.mono x1).mono x2, _, _, e5, fun ρ3 H3 z x3 S3 rz => ?_⟩
            cases rz
            refine ⟨_, rfl, ?_⟩
            exact slP_ok S3 ((rx.mono x2).mono x3) ⟨v, h', e, fun ρ4 H4 v4 x4 S4 r4 => k ρ4 H4 v4 (((x1.trans x2).trans x3).trans x4) S4 r4⟩
          · cases e4
        · cases e
      · cases e2
    · cases e
  · cases e
/-! tests -/
theorem tVal (ha : GE C X a fa) (he : ∀ whole, isTrue a X.env whole = (do let v ← whole; standAt a.pos; holding [v] (truthy v)) := by intro _; rfl) : GT C X a (evTest fa) := PT.imp (pt_val ha he) fun _ _ _ => tTest_ev
theorem tCmp {op : CmpOp} {r : R2} {pr : SV → SV → VH → EvR} (ho : OpR X (compareOp op) r) (hp : Pr2 C X.prog X.w X.K r pr) (ha : GE C X a fa) (hb : GE C X b fb) (hm : behindInMarks op b = false := by rfl) : GT C X (.Compare a [op] [b] pos) (evTest (evBin pr fa fb)) :=
  PT.imp (pt_cmpR ho ha hb hm) fun _ _ _ q => by
    obtain ⟨ρ, l, h, S, L, v, h', e, k⟩ := tTest_ev q
    exact tOp_ev hp ⟨ρ, l, h, S, L, v, h', e, k⟩
theorem tNotB (ha : GT C X a ft) : GT C X (.UnaryOp .Not a pos) (evNot ft) := PT.imp (pt_not ha) fun _ _ _ => tNot_ev
theorem wAnd1 (ha : GT C X a ft) : GW C X (.BoolOp .And [a] pos) ft := pw_and1 ha
theorem wOr1 (ha : GT C X a ft) : GW C X (.BoolOp .Or [a] pos) ft := pw_or1 ha
theorem wAnd (ha : GT C X a ft) (hb : GW C X (.BoolOp .And (b :: es) pos) fu) : GW C X (.BoolOp .And (a :: b :: es) pos) (evAnd ft fu) := PW.imp (pw_and ha hb) fun _ _ _ => tAnd_ev
theorem wOr (ha : GT C X a ft) (hb : GW C X (.BoolOp .Or (b :: es) pos) fu) : GW C X (.BoolOp .Or (a :: b :: es) pos) (evOr ft fu) := PW.imp (pw_or ha hb) fun _ _ _ => tOr_ev
theorem xIf (hc : GT C X c ft) (ha : GE C X a fa) (hb : GE C X b fb) : GE C X (.IfExp c a b pos) (evIf ft fa fb) := PE.imp (pe_ifExp hc ha hb) fun _ _ _ => tIf_ev
theorem xNot (ha : GE C X a fa) : GE C X (.UnaryOp .Not a pos) (evNotV fa) := PE.imp (pe_not ha) fun _ _ _ => tNotV_ev
theorem xAnd (ha : GE C X a fa) (hb : GE C X (.BoolOp .And (b :: es) pos) fb) : GE C X (.BoolOp .And (a :: b :: es) pos) (evAndV fa fb) := PE.imp (pe_and ha hb) fun _ _ _ => tAndV_ev
theorem xOr (ha : GE C X a fa) (hb : GE C X (.BoolOp .Or (b :: es) pos) fb) : GE C X (.BoolOp .Or (a :: b :: es) pos) (evOrV fa fb) := PE.imp (pe_or ha hb) fun _ _ _ => tOrV_ev
end
end
end Ev

namespace Ev
open PySem L2 PySem.Spec PyProof.Rows

/-! ## a def of the program, by values -/
def evFun (n m : Nat) (body : SF) : List SV → VH → EvR := fun xs h => match Nat.beq xs.length n with
  | true => (match body (xs.map some ++ List.replicate m none) h with
    | some (.ret v h') => some (v, h')
    | some (.nx _ h') => some (.non, h')
    | none => none)
  | false => none
def spEv (C : Bd) (P : Program) (w : World) (K : PySem.W.Frag) (n : Nat) (f : List SV → VH → EvR) : Sp := fun vs H Q _ => vs.length = n ∧ ∃ ρ h xs, Sim C P w K ρ h H ∧ VRs K ρ H xs vs ∧ tK C P w K (f xs h) ρ H Q
/-- a def keeps what its evaluator says -/
structure OkF (C : Bd) (P : Program) (w : World) (K : PySem.W.Frag) (mg : Str → Option Value) (base : Heap) (k : Nat) (a : Addr) (n : Nat) (f : List SV → VH → EvR) : Prop where
  ex : ∃ fd ps, FnOk P w K mg base CX0 k a fd ps (spEv C P w K n f) ∧ Binds K fd ps []
  kp : PySem.W.keepIn K (.ref a) = true
/-- a def of the text -/
structure DefF (K : PySem.W.Frag) (x qual : Str) (st : Stmt) (ps : List Str) (a : Addr) : Prop where
  ex : ∃ fd, Fun K x qual st a fd ∧ Binds K fd ps []
section
variable {C : Bd} {P : Program} {w : World} {K : PySem.W.Frag} {mg : Str → Option Value} {base : Heap}
theorem start_eq {N : List Str} {vs : List V} {n m : Nat} (h1 : vs.length = n) (h2 : N.length = n + m) : L2.start N vs = vs.map some ++ List.replicate m none := by
  unfold L2.start
  rw [show N.length - vs.length = m by omega]
theorem LR.start {ρ : List Addr} {H : Hp} {m : Nat} : ∀ {xs : List SV} {vs : List V}, VRs K ρ H xs vs → LR K ρ H (xs.map some ++ List.replicate m none) (vs.map some ++ List.replicate m none) := by
  intro xs vs r
  refine ⟨by simp [r.length], fun i x e => ?_⟩
  by_cases hi : i < xs.length
  · rw [List.getElem?_append_left (by simpa using hi), List.getElem?_map] at e
    cases e2 : xs[i]? with
    | none => rw [e2] at e; cases e
    | some y =>
      rw [e2] at e
      cases e
      obtain ⟨v, hv, rv⟩ := r.get e2
      refine ⟨v, ?_, rv⟩
      rw [List.getElem?_append_left (by rw [List.length_map, ← r.length]; exact hi), List.getElem?_map, hv]
      rfl
  · rw [List.getElem?_append_right (by simpa using hi)] at e
    rw [List.getElem?_replicate] at e
    split at e <;> cases e
theorem ok_def {x qual : Str} {st : Stmt} {a : Addr} {N ps : List Str} {k n m : Nat} {b : SF} (D : DefF K x qual st ps a) (S : FnScope N ps (defScope st)) (hn : ps.length = n) (hN : N.length = n + m)
    (hb : ∀ (cdv : Value) (A : Around) (outer : List Env) (s : Shared) (H : Hp), Room k (A.deeper (envOfC qual (defScope st) s.heap.objs.size a cdv)) →
      GSs C (cxOf CX0 P w K mg base N qual (defScope st) a cdv A outer s H E0).nox (defBody st) b) : OkF C P w K mg base (k + 1) a n (evFun n m b) := by
  obtain ⟨fd, F, hB⟩ := D.ex
  refine ⟨⟨fd, ps, ?_, hB⟩, F.kp⟩
  refine F.ok S (fun vs H Q E h => by rw [hn]; exact h.1) (fun cdv A outer s H vs Q E hr h => ?_)
  refine ⟨_, hb cdv A outer s H hr, ?_⟩
  obtain ⟨hl, ρ, vh, xs, Sm, rs, v, h', e, kk⟩ := h
  rw [start_eq hl hN]
  unfold evFun at e
  split at e
  · split at e
    · rename_i v1 h1 e1
      cases e
      exact ⟨ρ, _, vh, Sm, LR.start rs, .inr ⟨_, _, e1, fun ρ1 H1 v' x1 S1 r1 => kk ρ1 H1 v' x1 S1 r1⟩⟩
    · rename_i l1 h1 e1
      cases e
      exact ⟨ρ, _, vh, Sm, LR.start rs, .inl ⟨_, _, e1, fun ρ1 H1 σ' x1 S1 _ => kk ρ1 H1 .non x1 S1 .non⟩⟩
    · cases e
  · cases e
/-- never called -/
theorem ok_none {x qual : Str} {st : Stmt} {ps : List Str} {a : Addr} {k n : Nat} (D : DefF K x qual st ps a) (hn : ps.length = n) : OkF C P w K mg base k a n fun _ _ => none := by
  obtain ⟨fd, F, hB⟩ := D.ex
  exact ⟨⟨fd, ps, ⟨fun vs H Q E h => (by rw [hn]; exact h.1), fun A outer s H args us vs Q E hr he hb hv hs => by
    obtain ⟨_, _, _, _, _, _, _, _, e, _⟩ := hs
    cases e⟩, hB⟩, F.kp⟩
end

/-! ## calls -/
section
variable {C : Bd} {X : Cx} {a e : Expr} {es : List Expr} {fa : EF} {fs : AF} {pos p apos cpos : Pos} {k n : Nat} {f : List SV → VH → EvR} {ad : Addr}
theorem sp_of {ρ : List Addr} {h : VH} {H : Hp} {xs : List SV} {vs : List V} {Q : VK} {E : XK} {n m : Nat} {b : SF} (S : Sim C X.prog X.w X.K ρ h H) (rs : VRs X.K ρ H xs vs) (k : tK C X.prog X.w X.K (evFun n m b xs h) ρ H Q) : spEv C X.prog X.w X.K n (evFun n m b) vs H Q E := by
  refine ⟨?_, ρ, h, xs, S, rs, k⟩
  obtain ⟨v, h', e, _⟩ := k
  unfold evFun at e
  split at e
  · rename_i hb
    rw [← rs.length]
    exact Nat.eq_of_beq_eq_true hb
  · cases e
/-- f checks its arguments' number -/
def Arity (n : Nat) (f : List SV → VH → EvR) : Prop := ∀ xs h r, f xs h = some r → xs.length = n
theorem arity_fun {n m : Nat} {b : SF} : Arity n (evFun n m b) := fun xs h r e => by
  unfold evFun at e
  split at e
  · rename_i hb
    exact Nat.eq_of_beq_eq_true hb
  · cases e
theorem arity_none {n : Nat} : Arity n fun _ _ => none := fun _ _ _ e => by cases e
theorem sp_ar (har : Arity n f) {ρ : List Addr} {h : VH} {H : Hp} {xs : List SV} {vs : List V} {Q : VK} {E : XK} (S : Sim C X.prog X.w X.K ρ h H) (rs : VRs X.K ρ H xs vs) (k : tK C X.prog X.w X.K (f xs h) ρ H Q) : spEv C X.prog X.w X.K n f vs H Q E := by
  refine ⟨?_, ρ, h, xs, S, rs, k⟩
  obtain ⟨v, h', e, _⟩ := k
  rw [← rs.length]
  exact har _ _ _ e
theorem xCall {x : Str} (G : OkF C X.prog X.w X.K X.mg X.base k ad n f) (har : Arity n f) (hr : Room k X.A) (hm : X.mg x = some (.ref ad)) (ha : GA C X (e :: es) fs) (hg : Gl X x := by rfl) (hdb : (x == ("__debug__" : Str)) = false := by decide)
    (he : starEach (e :: es) X.env = (false, eval e X.env) :: starEach es X.env := by rfl) (hpl : (backTo pos (starEach es X.env)).any (·.1) = false := by rfl) : GE C X (.Call (.Name x p) (e :: es) [] pos) (evArgs f fs) := by
  obtain ⟨fd, ps, F, hB⟩ := G.ex
  refine PE.imp (pe_call F hr hg hm G.kp hB .nil pass0 ha hdb he hpl) fun σ H Q q => ?_
  obtain ⟨ρ, l, h, S, L, v, h', e, k⟩ := q
  unfold evArgs at e
  split at e
  · rename_i xs h1 ea
    refine ⟨ρ, l, h, S, L, xs, h1, ea, fun ρ1 H1 vs x1 S1 rs => ?_⟩
    show spEv C X.prog X.w X.K n f (vs ++ []) H1 Q E0
    rw [List.append_nil]
    exact sp_ar har S1 rs ⟨v, h', e, fun ρ2 H2 v2 x2 S2 r2 => k ρ2 H2 v2 (x1.trans x2) S2 r2⟩
  · cases e
theorem xCall0 {x : Str} (G : OkF C X.prog X.w X.K X.mg X.base k ad n f) (har : Arity n f) (hr : Room k X.A) (hm : X.mg x = some (.ref ad)) (hg : Gl X x := by rfl) (hdb : (x == ("__debug__" : Str)) = false := by decide) : GE C X (.Call (.Name x p) [] [] pos) (evArgs f evNil) := by
  obtain ⟨fd, ps, F, hB⟩ := G.ex
  refine PE.imp (pe_call0 F hr hg hm G.kp hB .nil pass0 hdb) fun σ H Q q => ?_
  obtain ⟨ρ, l, h, S, L, v, h', e, k⟩ := q
  show spEv C X.prog X.w X.K n f ([] ++ []) H Q E0
  exact sp_ar har S .nil ⟨v, h', e, k⟩

/-! ## instances -/
def insOf (h : VH) : SV → Option (Nat × List (Str × SV))
  | .loc i => match h.get i with
    | some (.ins fs) => some (i, fs)
    | _ => none
  | _ => none
def lookS : List (Str × SV) → Str → Option SV
  | [], _ => none
  | (g, v) :: r, f => match decide (f = g) with
    | true => some v
    | false => lookS r f
def putS (f : Str) (v : SV) : List (Str × SV) → List (Str × SV)
  | [] => [(f, v)]
  | (g, u) :: r => match decide (g = f) with
    | true => (g, v) :: r
    | false => (g, u) :: putS f v r
theorem insOf_ok {ρ : List Addr} {h : VH} {H : Hp} {x : SV} {v : V} {i : Nat} {fs : List (Str × SV)} (S : Sim C X.prog X.w X.K ρ h H) (r : VR X.K ρ H x v) (e : insOf h x = some (i, fs)) : ∃ a dx vs, v = .ref a ∧ x = .loc i ∧ ρ[i]? = some a ∧ H a = some (.ins C.c dx vs) ∧ PRel (fun x q => VR X.K ρ H x q) fs vs := by
  cases x with
  | loc j =>
    unfold insOf at e
    simp only [] at e
    split at e
    · rename_i fs' g
      cases e
      cases r with
      | loc ha =>
        obtain ⟨b, rb, o⟩ := S.obj _ _ g
        rw [ha] at rb
        cases rb
        cases o with
        | @ins _ vs dx ho e2 r2 => exact ⟨_, dx, vs, rfl, rfl, ha, ho, PRel.of (f := id) e2 (by simpa using r2)⟩
    · cases e
  | _ => cases e
theorem lookS_ok {ρ : List Addr} {H : Hp} {f : Str} : ∀ {fs : List (Str × SV)} {vs : List (Str × V)}, PRel (fun x q => VR X.K ρ H x q) fs vs → (lookS fs f = none ∧ vs.lookup f = none) ∨ ∃ x v, lookS fs f = some x ∧ vs.lookup f = some v ∧ VR X.K ρ H x v
  | _, _, .nil => .inl ⟨rfl, rfl⟩
  | p :: fs, q :: vs, .cons r t => by
    obtain ⟨g, x⟩ := p
    obtain ⟨g', v⟩ := q
    have e : g = g' := r.1
    subst e
    unfold lookS
    rw [List.lookup_cons]
    by_cases h : f = g
    · subst h
      refine .inr ⟨x, v, by simp, by simp, r.2⟩
    · rw [decide_eq_false h, beq_eq_false_iff_ne.mpr h]
      exact lookS_ok t
theorem putS_ok {ρ : List Addr} {H : Hp} {f : Str} {x : SV} {v : V} (rv : VR X.K ρ H x v) : ∀ {fs : List (Str × SV)} {vs : List (Str × V)}, PRel (fun x q => VR X.K ρ H x q) fs vs → PRel (fun x q => VR X.K ρ H x q) (putS f x fs) (putF f v vs)
  | _, _, .nil => .cons ⟨rfl, rv⟩ .nil
  | p :: fs, q :: vs, .cons r t => by
    obtain ⟨g, y⟩ := p
    obtain ⟨g', u⟩ := q
    have e : g = g' := r.1
    subst e
    unfold putS putF
    by_cases h : g = f
    · rw [decide_eq_true h, if_pos h]
      exact .cons ⟨rfl, rv⟩ t
    · rw [decide_eq_false h, if_neg h]
      exact .cons ⟨rfl, r.2⟩ (putS_ok rv t)
theorem Sim.wins {ρ : List Addr} {h : VH} {H : Hp} {i : Nat} {a dx : Addr} {vs vs' : List (Str × V)} {fs' : List (Str × SV)} (S : Sim C X.prog X.w X.K ρ h H) (ha : ρ[i]? = some a) (ho : H a = some (.ins C.c dx vs)) (r : PRel (fun x q => VR X.K ρ H x q) fs' vs') :
    Ext X.K ρ H ρ (upd H a (.ins C.c dx vs')) ∧ Sim C X.prog X.w X.K ρ (h.put i (.ins fs')) (upd H a (.ins C.c dx vs')) := by
  have m : Mut (H a) := by rw [ho]; trivial
  have E : Ext X.K ρ H ρ (upd H a (.ins C.c dx vs')) := Ext.write (S.live _ (List.mem_of_getElem? ha)) (List.mem_of_getElem? ha) m
  have r' := r.mono fun _ _ z => z.mono E
  exact S.write ha m (.ins upd_same (PRel.keys r') (by simpa using PRel.vals (f := id) r'))
def evFld (f : Str) (fa : EF) : EF := fun l h => match fa l h with
  | some (a, h1) => (match insOf h1 a with
    | some (_, fs) => (match lookS fs f with
      | some v => some (v, h1)
      | none => none)
    | none => none)
  | none => none
theorem xFld {f : Str} (ha : GE C X a fa) (cl : Cls X.K C.c) (n : NoAttr X.K C.c f) (hb : attributeBase a f X.env (eval a X.env) = eval a X.env := by rfl) : GE C X (.Attribute a f pos) (evFld f fa) :=
  PE.imp (pe_fld ha hb) fun σ H Q q => by
    obtain ⟨ρ, l, h, S, L, v, h', e, k⟩ := q
    unfold evFld at e
    split at e
    · rename_i x h1 ea
      split at e
      · rename_i i fs ei
        split at e
        · rename_i y ey
          cases e
          refine ⟨ρ, l, h, S, L, x, _, ea, fun ρ1 H1 x' x1 S1 rx => ?_⟩
          obtain ⟨ad, dx, vs, rfl, rfl, hρ, ho, rel⟩ := insOf_ok S1 rx ei
          rcases lookS_ok (f := f) rel with ⟨h2, _⟩ | ⟨z, u, h2, h3, r⟩
          · rw [h2] at ey; cases ey
          · rw [h2] at ey
            cases ey
            exact ⟨ad, C.c, dx, vs, u, rfl, ho, cl, n, h3, k ρ1 H1 u x1 S1 r⟩
        · cases e
      · cases e
    · cases e
def evSetF (f : Str) (fa fv : EF) : SF := fun l h => match fv l h with
  | some (v, h1) => (match fa l h1 with
    | some (a, h2) => (match insOf h2 a with
      | some (i, fs) => (match Nat.blt fs.length 100 with
        | true => some (.nx l (h2.put i (.ins (putS f v fs))))
        | false => none)
      | none => none)
    | none => none)
  | none => none
theorem sSetF {f : Str} {value : Expr} {fv : EF} {pos' : Pos} (ha : GE C X a fa) (hv : GE C X value fv) (cl : Cls X.K C.c) (n : NoAttr X.K C.c f) (hs : swapsWith value (some (.Attribute a f pos')) pos.line X.env = pure false := by rfl) : GS C X (.Assign [.Attribute a f pos'] value pos) (evSetF f fa fv) :=
  PS.imp (ps_fld ha hv hs) fun D σ H q => by
    obtain ⟨ρ, l, h, S, L, ⟨l', h', e, k⟩ | ⟨v, h', e, k⟩⟩ := q
    · unfold evSetF at e
      split at e
      · rename_i v h1 ev
        split at e
        · rename_i x h2 ea
          split at e
          · rename_i i fs ei
            split at e
            · rename_i hl
              cases e
              refine ⟨ρ, l, h, S, L, v, h1, ev, fun ρ1 H1 v' x1 S1 rv => ⟨ρ1, l, h1, S1, L.mono x1, x, h2, ea, fun ρ2 H2 x' x2 S2 rx => ?_⟩⟩
              obtain ⟨ad, dx, vs, rfl, rfl, hρ, ho, rel⟩ := insOf_ok S2 rx ei
              obtain ⟨E, S3⟩ := S2.wins (fs' := putS f v fs) hρ ho (putS_ok (rv.mono x2) rel)
              refine ⟨ad, C.c, dx, vs, rfl, ho, cl, n, ?_, k ρ2 _ σ ((x1.trans x2).trans E) S3 (((L.mono x1).mono x2).mono E)⟩
              rw [← rel.length]
              exact Nat.lt_trans (Nat.le_of_ble_eq_true hl) (by decide)
            · cases e
          · cases e
        · cases e
      · cases e
    · unfold evSetF at e
      split at e
      · split at e
        · split at e
          · split at e <;> cases e
          · cases e
        · cases e
      · cases e
/-- o.f += e, ints -/
def evAugF (f : Str) (fa fv : EF) : SF := fun l h => match fa l h with
  | some (a, h1) => (match insOf h1 a with
    | some (i, fs) => (match lookS fs f with
      | some (.int m) => (match fv l h1 with
        | some (.int j, h2) => (match h2.get i with
          | some (.ins fs2) => (match Nat.blt fs2.length 100 with
            | true => some (.nx l (h2.put i (.ins (putS f (.int (m + j)) fs2))))
            | false => none)
          | _ => none)
        | _ => none)
      | _ => none)
    | none => none)
  | none => none
theorem sAugF {f : Str} {value : Expr} {fv : EF} {tpos : Pos} (ha : GE C X a fa) (hv : GE C X value fv) (cl : Cls X.K C.c) (n : NoAttr X.K C.c f) : GS C X (.AugAssign (.Attribute a f tpos) .Add value pos) (evAugF f fa fv) :=
  PS.imp (ps_fldaug (rd := ipI fun i j => i + j) ha hv ip_add) fun D σ H q => by
    obtain ⟨ρ, l, h, S, L, ⟨l', h', e, k⟩ | ⟨v, h', e, k⟩⟩ := q
    · unfold evAugF at e
      split at e
      · rename_i x h1 ea
        split at e
        · rename_i i fs ei
          split at e
          · rename_i m em
            split at e
            · rename_i j h2 ev
              split at e
              · rename_i fs2 g2
                split at e
                · rename_i hl
                  cases e
                  refine ⟨ρ, l, h, S, L, x, h1, ea, fun ρ1 H1 x' x1 S1 rx => ?_⟩
                  obtain ⟨ad, dx, vs, rfl, rfl, hρ, ho, rel⟩ := insOf_ok S1 rx ei
                  rcases lookS_ok (f := f) rel with ⟨h2, _⟩ | ⟨z, u, h2, h3, r⟩
                  · rw [h2] at em; cases em
                  · rw [h2] at em
                    cases em
                    cases r
                    refine ⟨ad, C.c, dx, vs, .int m, rfl, ho, cl, n, h3, ρ1, l, h1, S1, L.mono x1, _, _, ev, fun ρ2 H2 v' x2 S2 rv => ?_⟩
                    cases rv
                    refine ⟨m, j, rfl, rfl, ?_⟩
                    obtain ⟨ad2, dx2, vs2, e2, _, hρ2, ho2, rel2⟩ := insOf_ok (i := i) (x := .loc i) S2 (.loc (x2.at hρ)) (by unfold insOf; simp only []; rw [g2])
                    cases e2
                    obtain ⟨E, S3⟩ := S2.wins (fs' := putS f (.int (m + j)) fs2) hρ2 ho2 (putS_ok (.int _) rel2)
                    refine ⟨dx2, vs2, ho2, ?_, k ρ2 _ σ ((x1.trans x2).trans E) S3 (((L.mono x1).mono x2).mono E)⟩
                    rw [← rel2.length]
                    exact Nat.lt_trans (Nat.le_of_ble_eq_true hl) (by decide)
                · cases e
              · cases e
            · cases e
          · cases e
        · cases e
      · cases e
    · unfold evAugF at e
      split at e
      · split at e
        · split at e
          · split at e
            · split at e
              · split at e <;> cases e
              · cases e
            · cases e
          · cases e
        · cases e
      · cases e
/-- o.m(..) -/
def evMethI (m : Str) (f : List SV → VH → EvR) (fa : EF) (fs : AF) : EF := fun l h => match fa l h with
  | some (a, h1) => (match insOf h1 a with
    | some (_, fds) => (match lookS fds m with
      | none => (match fs l h1 with
        | some (xs, h2) => f (a :: xs) h2
        | none => none)
      | some _ => none)
    | none => none)
  | none => none
theorem meth_ev {m : Str} (har : Arity n f) {σ : L2.St} {H : Hp} {Q : VK} (q : tEv C X.prog X.w X.K (evMethI m f fa fs) σ H Q) : tMeth C.c m (spEv C X.prog X.w X.K n f) [] E0 (tEv C X.prog X.w X.K fa) (tAv C X.prog X.w X.K fs) σ H Q := by
  obtain ⟨ρ, l, h, S, L, v, h', e, k⟩ := q
  unfold evMethI at e
  split at e
  · rename_i x h1 ea
    split at e
    · rename_i i fds ei
      split at e
      · rename_i el
        split at e
        · rename_i xs h2 ex
          refine ⟨ρ, l, h, S, L, x, h1, ea, fun ρ1 H1 x' x1 S1 rx => ?_⟩
          obtain ⟨ad, dx, vs, rfl, rfl, hρ, ho, rel⟩ := insOf_ok S1 rx ei
          refine ⟨ad, dx, vs, rfl, ho, ?_, ρ1, l, h1, S1, L.mono x1, xs, h2, ex, fun ρ2 H2 ws x2 S2 rs => ?_⟩
          · rcases lookS_ok (f := m) rel with ⟨_, h3⟩ | ⟨z, u, h2, _, _⟩
            · exact h3
            · rw [h2] at el; cases el
          · show spEv C X.prog X.w X.K n f (.ref ad :: (ws ++ [])) H2 Q E0
            rw [List.append_nil]
            exact sp_ar har S2 (.cons (.loc (x2.at hρ)) rs) ⟨v, h', e, fun ρ3 H3 v3 x3 S3 r3 => k ρ3 H3 v3 ((x1.trans x2).trans x3) S3 r3⟩
        · cases e
      · cases e
    · cases e
  · cases e
theorem xMethI {m : Str} {pl : Sem Bool} (G : OkF C X.prog X.w X.K X.mg X.base k ad n f) (har : Arity n f) (hr : Room k X.A) (cl : Cls X.K C.c) (hm : Meth X.K C.c m ad) (ho : GE C X a fa) (ha : GA C X (e :: es) fs)
    (hst : starEach (e :: es) X.env = (false, eval e X.env) :: starEach es X.env := by rfl) (hpl : (backTo pos (starEach es X.env)).any (·.1) = false := by rfl)
    (ht : eval (.Call (.Attribute a m apos) (e :: es) [] pos) X.env = (do
      let ov ← eval a X.env
      standAt apos.atName
      let (f, first) ← holding [ov] (getMethod ov m pl)
      callWith pos f first (backTo pos (starEach (e :: es) X.env)) (backToKw pos (keywordEach [] X.env))) := by rfl) : GE C X (.Call (.Attribute a m apos) (e :: es) [] pos) (evMethI m f fa fs) := by
  obtain ⟨fd, ps, F, hB⟩ := G.ex
  exact PE.imp (pe_meth ho cl hm F hr hB .nil pass0 ha hst hpl ht) fun σ H Q q => meth_ev har q
theorem xMethI0 {m : Str} {pl : Sem Bool} (G : OkF C X.prog X.w X.K X.mg X.base k ad n f) (har : Arity n f) (hr : Room k X.A) (cl : Cls X.K C.c) (hm : Meth X.K C.c m ad) (ho : GE C X a fa)
    (ht : eval (.Call (.Attribute a m apos) [] [] pos) X.env = (do
      let ov ← eval a X.env
      standAt apos.atName
      let (f, first) ← holding [ov] (getMethod ov m pl)
      callWith pos f first (backTo pos (starEach [] X.env)) (backToKw pos (keywordEach [] X.env))) := by rfl) : GE C X (.Call (.Attribute a m apos) [] [] pos) (evMethI m f fa evNil) := by
  obtain ⟨fd, ps, F, hB⟩ := G.ex
  refine PE.imp (pe_meth0 ho cl hm F hr hB .nil pass0 ht) fun σ H Q q => ?_
  obtain ⟨ρ, l, h, S, L, v, h', e, k⟩ := meth_ev har q
  refine ⟨ρ, l, h, S, L, v, h', e, fun ρ1 H1 a' x1 S1 ra => ?_⟩
  obtain ⟨ad', dx, vs, h1, h2, h3, h4⟩ := k ρ1 H1 a' x1 S1 ra
  exact ⟨ad', dx, vs, h1, h2, h3, tNil_ev h4⟩
/-- C(..) -/
def evMake (f : List SV → VH → EvR) (fs : AF) : EF := fun l h => match fs l h with
  | some (xs, h1) => (match f (.loc h1.n :: xs) (h1.new (.ins [])).2 with
    | some (.non, h2) => some (.loc h1.n, h2)
    | _ => none)
  | none => none
theorem xMake {x : Str} {fi : Addr} (M : Mk X.K C.c fi) (G : OkF C X.prog X.w X.K X.mg X.base k fi n f) (har : Arity n f) (hr : Room (k + 1) X.A) (hm : X.mg x = some (.ref C.c)) (ha : GA C X (e :: es) fs) (hg : Gl X x := by rfl) (hdb : (x == ("__debug__" : Str)) = false := by decide)
    (he : starEach (e :: es) X.env = (false, eval e X.env) :: starEach es X.env := by rfl) (hpl : (backTo pos (starEach es X.env)).any (·.1) = false := by rfl) : GE C X (.Call (.Name x p) (e :: es) [] pos) (evMake f fs) := by
  obtain ⟨fd, ps, F, hB⟩ := G.ex
  refine PE.imp (pe_make M F hr hg hm hB .nil pass0 ha hdb he hpl) fun σ H Q q => ?_
  obtain ⟨ρ, l, h, S, L, v, h', e, k⟩ := q
  unfold evMake at e
  split at e
  · rename_i xs h1 ea
    split at e
    · rename_i h2 ef
      cases e
      refine ⟨ρ, l, h, S, L, xs, h1, ea, fun ρ1 H1 vs x1 S1 rs => fun o dx no nd ne => ?_⟩
      have E1 : Ext X.K ρ1 H1 ρ1 (upd H1 dx (.own o)) := Ext.fresh nd
      have S2 := S1.fresh (o := .own o) nd
      have no2 : upd H1 dx (.own o) o = none := by rw [upd_ne (Ne.symm ne)]; exact no
      have E2 : Ext X.K ρ1 (upd H1 dx (.own o)) (ρ1 ++ [o]) (upd (upd H1 dx (.own o)) o (.ins C.c dx [])) := Ext.new no2
      have S3 : Sim C X.prog X.w X.K (ρ1 ++ [o]) (h1.new (.ins [])).2 (upd (upd H1 dx (.own o)) o (.ins C.c dx [])) := S2.new no2 (.ins (vs := []) upd_same rfl .nil)
      have ro : (ρ1 ++ [o])[h1.n]? = some o := by rw [← S1.len]; simp
      rw [List.append_nil]
      refine sp_ar har S3 (.cons (.loc ro) ((rs.mono E1).mono E2)) ⟨.non, _, ef, fun ρ2 H2 v2 x2 S4 r4 => ?_⟩
      cases r4
      exact ⟨rfl, k ρ2 H2 (.ref o) (((x1.trans E1).trans E2).trans x2) S4 (.loc (x2.at ro))⟩
    · cases e
  · cases e
end

/-! ## statements -/
section
variable {C : Bd} {X : Cx} {a e c : Expr} {es : List Expr} {fa fb : EF} {fs : AF} {ft : TF'} {pos : Pos} {st : Stmt} {sts b1 b2 : List Stmt} {f g : SF}
theorem ssOne (h : GS C X st f) : GSs C X [st] f := pss_one h
theorem ssCons (h : GS C X st f) (t : GSs C X sts g) : GSs C X (st :: sts) (evSeq f g) := PSs.imp (pss_cons h t) fun _ _ _ => tSeq_ev
theorem ssNil : GSs C X [] evSkip := PSs.imp pss_nil fun _ _ _ => tNext_ev
theorem sRet (h : GE C X e fa) : GS C X (.Return (some e) pos) (evRet fa) := PS.imp (ps_ret h) fun _ _ _ => tRet_ev
theorem sExpr (h : GE C X e fa) (hs : swapsWith e none pos.line X.env = pure false := by rfl) : GS C X (.Expr e pos) (evDrop fa) := PS.imp (ps_expr h hs) fun _ _ _ => tDrop_ev
theorem sIf (hc : GT C X c ft) (h1 : GSs C X b1 f) (h2 : GSs C X b2 g) : GS C X (.If c b1 b2 pos) (evIfS ft f g) := PS.imp (ps_if hc h1 h2) fun _ _ _ => tIfS_ev
theorem sSet (i : Nat) {x : Str} {pos' : Pos} (hN : X.N.Nodup) (h : GE C X e fa) (hi : X.N[i]? = some x := by rfl) (hx : L2.Loc X.env.scope x := by first | exact Or.inl rfl | exact Or.inr rfl) (hs : swapsWith e (some (.Name x pos')) pos.line X.env = pure false := by rfl) (hf : X.fn x = true ∨ X.env.scope.names.lookup x = some .local := by first | exact .inl rfl | exact .inr rfl) :
    GS C X (.Assign [.Name x pos'] e pos) (evAsg (.one i) fa) := PS.imp (ps_set hN hi hx h hs hf) fun _ _ _ => tAsg_ev
theorem gOne (i : Nat) {x : Str} (hN : X.N.Nodup) (hi : X.N[i]? = some x := by rfl) (hx : L2.Loc X.env.scope x := by first | exact Or.inl rfl | exact Or.inr rfl) (hf : X.fn x = true ∨ X.env.scope.names.lookup x = some .local := by first | exact .inl rfl | exact .inr rfl) : PG X (.Name x pos) (tTg X.K (.one i)) := pg_name hN hi hx hf
theorem gsNil : PGs X [] (gsOf []) := pgs_nil
theorem gsCons (i : Nat) {is : List Nat} {x : Str} {p : Pos} (hN : X.N.Nodup) (h : PGs X es (gsOf is)) (hi : X.N[i]? = some x := by rfl) (hx : L2.Loc X.env.scope x := by first | exact Or.inl rfl | exact Or.inr rfl) (hf : X.fn x = true ∨ X.env.scope.names.lookup x = some .local := by first | exact .inl rfl | exact .inr rfl)
    (hs : (assignEach (.Name x p :: es) X.env).map (·.2) = assign (.Name x p) X.env :: (assignEach es X.env).map (·.2) := by rfl) : PGs X (.Name x p :: es) (gsOf (i :: is)) := pgs_cons (pg_name hN hi hx hf) h hs
theorem gMany (is : List Nat) {k : Nat} (hc : X.calm = true) (h : PGs X es (gsOf is)) (hn : (assignEach es X.env).length = is.length := by rfl) (hst : (assignEach es X.env).findIdx? (·.1) = none := by rfl) : PG X (.Tuple es k pos) (tTg X.K (.many is)) := pg_tup hc h hn hst
theorem sAsg {tg : Expr} {t : Tg} (h : GE C X e fa) (hg : PG X tg (tTg X.K t)) (hs : swapsWithSole [tg] e pos.line X.env = pure false := by rfl) (hw : swappedStores [tg] e X.env = pure none := by rfl) (h1 : (assignEach [tg] X.env).map (·.2) = [assign tg X.env] := by rfl) : GS C X (.Assign [tg] e pos) (evAsg t fa) :=
  PS.imp (ps_asg h hg hs hw h1) fun _ _ _ => tAsg_ev
theorem sPar2 (i j : Nat) {x y : Str} {px py pt : Pos} {kt k2 : Nat} {pt2 : Pos} (hc : X.calm = true) (hN : X.N.Nodup) (hij : i ≠ j) (h : GA C X [a, e] (evCons fa (evCons fb evNil))) (hi : X.N[i]? = some x := by rfl) (hj : X.N[j]? = some y := by rfl) (hx : X.env.scope.names.lookup x = some .local := by rfl) (hy : X.env.scope.names.lookup y = some .local := by rfl)
    (hw : swappedStores [.Tuple [.Name x px, .Name y py] kt pt] (.Tuple [a, e] k2 pt2) X.env = pure (some [x, y]) := by rfl) (hs : swapsWithSole [.Tuple [.Name x px, .Name y py] kt pt] (.Tuple [a, e] k2 pt2) pos.line X.env = pure false := by rfl) :
    GS C X (.Assign [.Tuple [.Name x px, .Name y py] kt pt] (.Tuple [a, e] k2 pt2) pos) (evPar [i, j] (evCons fa (evCons fb evNil))) :=
  PS.imp (ps_par hc hN hi hj hij hx hy h hw hs) fun _ _ _ => tPar_ev
theorem sPut {o i : Expr} {fo fi : EF} {p : Pos} (hu : X.A.units + 9 < cLine) (ho : GE C X o fo) (hi : GE C X i fi) (h : GE C X e fa) (hs : swapsWithSole [.Subscript o i p] e pos.line X.env = pure false := by rfl) (hw : swappedStores [.Subscript o i p] e X.env = pure none := by rfl) (h1 : (assignEach [.Subscript o i p] X.env).map (·.2) = [assign (.Subscript o i p) X.env] := by rfl)
    (has : ∀ v, assign (.Subscript o i p) X.env v = (do
      let ov ← holding [v] (eval o X.env)
      let iv ← holding [v, ov] (eval i X.env)
      standAt p
      holding [v, ov, iv] (setItem ov iv v)
      release [v, ov, iv] []) := by intro _; rfl) : GS C X (.Assign [.Subscript o i p] e pos) (evPut fo fi fa) :=
  PS.imp (ps_asg h (pg_sub ho hi (set_all hu) has) hs hw h1) fun _ _ _ => tPut_ev
theorem sFor {tg iter : Expr} {t : Tg} {fi : IF} {fb : SF} (hp : PassesOwn (model X.prog X.w) X.A X.env X.xe) (hc : X.calm = true) (hi : GI C X tg iter fi) (hg : PG X tg (tTg X.K t)) (hb : GSs C X b1 fb) (hs : ∀ x, foldedSetIterable iter X.env x = pure x := by intro _; rfl) : GS C X (.For tg iter b1 [] pos) (evFor fi t fb) :=
  PS.imp (ps_for hp hc hi hg hb hs) fun _ _ _ => tFor_ev
theorem iSeq {tg : Expr} (h : GE C X e fa) : GI C X tg e (evSeqI fa) := PI.imp (pi_seqA h) fun _ _ _ => iSeq_ev
theorem iEnum {elts : List Expr} {kk : Nat} {tpos p : Pos} (hm : X.mg "enumerate" = none) (h : GA C X [e] fs) (hg : Gl X "enumerate" := by rfl) (hs : starEach [e] X.env = [(false, eval e X.env)] := by rfl) : GI C X (.Tuple elts kk tpos) (.Call (.Name "enumerate" p) [e] [] pos) (evEnumI fs) := PI.imp (pi_enumA hg hm h hs) fun _ _ _ => iEnum_ev
theorem iZip {e2 : Expr} {elts : List Expr} {kk : Nat} {tpos p : Pos} (hm : X.mg "zip" = none) (h : GA C X [e, e2] fs) (hg : Gl X "zip" := by rfl) (hs : starEach [e, e2] X.env = (false, eval e X.env) :: starEach [e2] X.env := by rfl) (hpl : (backTo pos (starEach [e2] X.env)).any (·.1) = false := by rfl) : GI C X (.Tuple elts kk tpos) (.Call (.Name "zip" p) [e, e2] [] pos) (evZipI fs) :=
  PI.imp (pi_zipG hg hm h hs hpl) fun _ _ _ => iZip_ev
theorem iItems {elts : List Expr} {kk : Nat} {tpos apos : Pos} (h : GE C X e fa) (hbase : attributeBase e "items" X.env (eval e X.env) = eval e X.env := by rfl) (hline : (apos.endLine == pos.line) = true := by rfl) : GI C X (.Tuple elts kk tpos) (.Call (.Attribute e "items" apos) [] [] pos) (evItemsI fa) := PI.imp (pi_itemsX h hbase hline) fun _ _ _ => iItems_ev
theorem tYes_ev {P : Program} {w : World} {K : PySem.W.Frag} {σ : L2.St} {H : Hp} {Q : Bool → Hp → Prop} (q : tTv C P w K evYes σ H Q) : tYes σ H Q := by
  obtain ⟨ρ, l, h, S, L, b, h', e, k⟩ := q
  cases e
  exact k ρ H .refl S
theorem xLc (own : List (Str × Nat)) {t : Tg} {elt tg iter : Expr} {ifs : List Expr} {scope : Scope} {fi : IF} {ft : TF'} {fe : EF} (hc : X.calm = true) (hN : X.N.Nodup) (hi : GI C X tg iter fi) (ok : blkC X.N X.env.scope scope own = true)
    (hg : ∀ (s : Shared) (H : Hp) (C' : Addr) (cl : List (Str × Addr)) (fp : List Addr), PG (X.blk s H scope (compEnvC scope cl C' X.env) fp) tg (tTg X.K t)) (ht : ∀ (s : Shared) (H : Hp) (C' : Addr) (cl : List (Str × Addr)) (fp : List Addr), PTs (X.blk s H scope (compEnvC scope cl C' X.env) fp) ifs (tTv C X.prog X.w X.K ft))
    (he : ∀ (s : Shared) (H : Hp) (C' : Addr) (cl : List (Str × Addr)) (fp : List Addr), GE C (X.blk s H scope (compEnvC scope cl C' X.env) fp) elt fe) (hv : ∀ i ∈ t.ix, i ∈ own.map (·.2)) (hs : ∀ x, foldedSetIterable iter X.env x = pure x := by intro _; rfl) :
    GE C X (.ListComp elt [⟨tg, iter, ifs, 0⟩] scope pos) (evComp fi t ft fe (own.map (·.2))) :=
  PE.imp (pe_lc (te := tEv C X.prog X.w X.K fe) hc hN hi (blkOk_by ok) hg ht he hs) fun _ _ _ => tLc_ev hv
theorem tsNil {X' : Cx} {P : Program} {w : World} {K : PySem.W.Frag} : PTs X' [] (tTv C P w K evYes) := PTs.imp pts_nil fun _ _ _ => tYes_ev
theorem tsOne (h : GT C X c ft) : PTs X [c] (tTv C X.prog X.w X.K ft) := pts_one h
end
end Ev

namespace Ev
open PySem L2 PySem.Spec PyProof.Rows
section
variable {C : Bd} {X : Cx} {a e c : Expr} {es : List Expr} {fa fb fc : EF} {fs : AF} {ft : TF'} {pos p : Pos}
def negP (a : SV) (h : VH) : EvR := match a with
  | .int i => some (.int (-i), h)
  | _ => none
theorem negP_ok {P : Program} {w : World} {K : PySem.W.Frag} : Pr1 C P w K (rU fun i => .int (-i)) negP := by
  intro ρ h H a a' Q S ra k
  obtain ⟨v, h', e, _⟩ := id k
  unfold negP at e
  split at e
  · cases e
    cases ra
    exact ⟨_, rfl, k.of rfl .refl S (.int _)⟩
  · cases e
theorem xNeg (ha : GE C X a fa) : GE C X (.UnaryOp .USub a pos) (evUn negP fa) := PE.imp (pe_un un_neg ha) fun _ _ _ => tUn_ev negP_ok
def revP (a : SV) (h : VH) : EvR := match lstOf h a with
  | some (_, xs) => mkLst xs.reverse h
  | none => none
theorem xRev {k : Nat} {p1 p2 p3 : Pos} (ha : GE C X a fa) : GE C X (.Subscript a (.Slice none none (some (.UnaryOp .USub (.Constant (.int 1) k p1) p2)) p3) pos) (evUn revP fa) :=
  PE.imp (pe_revL ha) fun σ H Q q => by
    obtain ⟨ρ, l, h, S, L, v, h', e, k⟩ := q
    unfold evUn at e
    split at e
    · rename_i x h1 ea
      refine ⟨ρ, l, h, S, L, x, h1, ea, fun ρ1 H1 x' x1 S1 rx => ?_⟩
      unfold revP at e
      split at e
      · rename_i i xs el
        obtain ⟨ad, vs, rfl, rfl, g, hρ, hl, rs⟩ := lstOf_ok S1 rx el
        exact ⟨ad, vs, rfl, SqL.of hl, (mkLst_ok (Q := Q) S1 rs.reverse ⟨v, h', e, fun ρ2 H2 v2 x2 S2 r2 => k ρ2 H2 v2 (x1.trans x2) S2 r2⟩).2⟩
      · cases e
    · cases e
theorem xNewT : GE C X (.Dict [] [] pos) evNewT := PE.imp pe_dtNew fun _ _ _ => tNewT_ev
theorem xNewK : GE C X (.Dict [] [] pos) evNewK := PE.imp pe_dnewK fun _ _ _ => tNewK_ev
theorem xAnd1 (ha : GE C X a fa) : GE C X (.BoolOp .And [a] pos) fa := pe_one ha
theorem xOr1 (ha : GE C X a fa) : GE C X (.BoolOp .Or [a] pos) fa := pe_one ha
theorem sSetLc (i : Nat) (own : List (Str × Nat)) {y : Str} {py spos : Pos} {t : Tg} {elt tg iter : Expr} {ifs : List Expr} {scope : Scope} {fi : IF} {ft : TF'} {fe : EF} (hc : X.calm = true) (hN : X.N.Nodup) (hi : GI C X tg iter fi) (ok : blkC X.N X.env.scope scope own = true)
    (hg : ∀ (s : Shared) (H : Hp) (C' : Addr) (cl : List (Str × Addr)) (fp : List Addr), PG (X.blk s H scope (compEnvC scope cl C' X.env) fp) tg (tTg X.K t)) (ht : ∀ (s : Shared) (H : Hp) (C' : Addr) (cl : List (Str × Addr)) (fp : List Addr), PTs (X.blk s H scope (compEnvC scope cl C' X.env) fp) ifs (tTv C X.prog X.w X.K ft))
    (he : ∀ (s : Shared) (H : Hp) (C' : Addr) (cl : List (Str × Addr)) (fp : List Addr), GE C (X.blk s H scope (compEnvC scope cl C' X.env) fp) elt fe) (hv : ∀ i ∈ t.ix, i ∈ own.map (·.2)) (hy : X.N[i]? = some y := by rfl) (hyl : X.env.scope.names.lookup y = some .local := by rfl)
    (hsw : swapsWith (.ListComp elt [⟨tg, iter, ifs, 0⟩] scope pos) (some (.Name y py)) spos.line X.env = pure true := by rfl) (hs : ∀ x, foldedSetIterable iter X.env x = pure x := by intro _; rfl) :
    GS C X (.Assign [.Name y py] (.ListComp elt [⟨tg, iter, ifs, 0⟩] scope pos) spos) (evAsg (.one i) (evComp fi t ft fe (own.map (·.2)))) :=
  PS.imp (ps_setLc (te := tEv C X.prog X.w X.K fe) hc hN hy hyl hsw hi (blkOk_by ok) hg ht he hs) fun D σ H q => by
    have q2 := tAsg_ev q
    exact tLc_ev hv q2
theorem sPar3 (i j l : Nat) {b c : Expr} {x y z : Str} {px py pz pt : Pos} {kt k2 : Nat} {pt2 : Pos} (hc : X.calm = true) (hN : X.N.Nodup) (hij : i ≠ j) (hil : i ≠ l) (hjl : j ≠ l) (h : GA C X [a, b, c] (evCons fa (evCons fb (evCons fc evNil)))) (hi : X.N[i]? = some x := by rfl) (hj : X.N[j]? = some y := by rfl) (hl : X.N[l]? = some z := by rfl)
    (hx : X.env.scope.names.lookup x = some .local := by rfl) (hy : X.env.scope.names.lookup y = some .local := by rfl) (hz : X.env.scope.names.lookup z = some .local := by rfl)
    (hw : swappedStores [.Tuple [.Name x px, .Name y py, .Name z pz] kt pt] (.Tuple [a, b, c] k2 pt2) X.env = pure (some [x, y, z]) := by rfl) (hs : swapsWithSole [.Tuple [.Name x px, .Name y py, .Name z pz] kt pt] (.Tuple [a, b, c] k2 pt2) pos.line X.env = pure false := by rfl) :
    GS C X (.Assign [.Tuple [.Name x px, .Name y py, .Name z pz] kt pt] (.Tuple [a, b, c] k2 pt2) pos) (evPar [i, j, l] (evCons fa (evCons fb (evCons fc evNil)))) :=
  PS.imp (ps_par3 hc hN hi hj hl hij hil hjl hx hy hz h hw hs) fun _ _ _ => tPar3_ev
end
end Ev

namespace Ev
open PySem L2 PySem.Spec PyProof.Rows PySem.Calls

/-! ## a stable sort that the kernel runs -/
def leD {α : Type} (p q : PyData × α) : Bool := !PySem.W.dataLt q.1 p.1
def insD {α : Type} (x : PyData × α) : List (PyData × α) → List (PyData × α)
  | [] => [x]
  | y :: r => match leD x y with
    | true => x :: y :: r
    | false => y :: insD x r
def isortD {α : Type} : List (PyData × α) → List (PyData × α)
  | [] => []
  | x :: r => insD x (isortD r)
section
variable {α β : Type}
theorem leD_eq (p q : PyData × α) : leD p q = PySem.W.dataLe false (fun b : PyData × α => b.1) p q := rfl
theorem leD_total : PySem.W.TotalLe (leD (α := α)) := PySem.W.sortLe_total (listOrd itemOrd) false fun b : PyData × α => PySem.W.keyToks b.1
theorem insD_mem (x : PyData × α) : ∀ (l : List (PyData × α)) (y : PyData × α), y ∈ insD x l → y = x ∨ y ∈ l
  | [], y, h => .inl (List.mem_singleton.mp h)
  | z :: r, y, h => by
    unfold insD at h
    split at h
    · rcases List.mem_cons.mp h with h | h
      · exact .inl h
      · exact .inr h
    · rcases List.mem_cons.mp h with h | h
      · exact .inr (h ▸ List.mem_cons_self)
      · exact (insD_mem x r y h).imp id (List.mem_cons_of_mem _)
theorem insD_sorted (x : PyData × α) : ∀ (l : List (PyData × α)), l.Pairwise (fun a b => leD a b = true) → (insD x l).Pairwise (fun a b => leD a b = true)
  | [], _ => by unfold insD; exact List.pairwise_singleton _ _
  | z :: r, h => by
    unfold insD
    split
    · rename_i e
      refine List.pairwise_cons.mpr ⟨fun y hy => ?_, h⟩
      rcases List.mem_cons.mp hy with rfl | hy
      · exact e
      · exact leD_total.trans _ _ _ e ((List.pairwise_cons.mp h).1 y hy)
    · rename_i e
      refine List.pairwise_cons.mpr ⟨fun y hy => ?_, insD_sorted x r (List.pairwise_cons.mp h).2⟩
      rcases insD_mem x r y hy with rfl | hy
      · exact (leD_total.total z y).resolve_right (by rw [e]; exact Bool.false_ne_true)
      · exact (List.pairwise_cons.mp h).1 y hy
theorem insD_filter (x c : PyData × α) : ∀ (l : List (PyData × α)), l.Pairwise (fun a b => leD a b = true) → (insD x l).filter (PySem.W.sameRank leD c) = (x :: l).filter (PySem.W.sameRank leD c)
  | [], _ => rfl
  | z :: r, h => by
    unfold insD
    split
    · rfl
    · rename_i e
      have ih := insD_filter x c r (List.pairwise_cons.mp h).2
      rw [List.filter_cons, ih]
      cases hx : PySem.W.sameRank leD c x with
      | false =>
        rw [List.filter_cons_of_neg (by rw [hx]; exact Bool.false_ne_true), List.filter_cons_of_neg (l := z :: r) (by rw [hx]; exact Bool.false_ne_true), List.filter_cons]
      | true =>
        have hz : PySem.W.sameRank leD c z = false := by
          cases q : PySem.W.sameRank leD c z with
          | false => rfl
          | true =>
            unfold PySem.W.sameRank at hx q
            have h1 := Bool.and_eq_true_iff.mp hx
            have h2 := Bool.and_eq_true_iff.mp q
            exact absurd (leD_total.trans _ _ _ h1.2 h2.1) (by rw [e]; exact Bool.false_ne_true)
        rw [if_neg (by rw [hz]; exact Bool.false_ne_true), List.filter_cons_of_pos hx, List.filter_cons_of_pos (l := z :: r) hx, List.filter_cons_of_neg (by rw [hz]; exact Bool.false_ne_true)]
theorem isortD_sorted : ∀ (l : List (PyData × α)), (isortD l).Pairwise (fun a b => leD a b = true)
  | [] => List.Pairwise.nil
  | x :: r => insD_sorted x _ (isortD_sorted r)
theorem isortD_filter (c : PyData × α) : ∀ (l : List (PyData × α)), (isortD l).filter (PySem.W.sameRank leD c) = l.filter (PySem.W.sameRank leD c)
  | [] => rfl
  | x :: r => by
    show (insD x (isortD r)).filter _ = _
    rw [insD_filter x c _ (isortD_sorted r), List.filter_cons, List.filter_cons, isortD_filter c r]
theorem isortD_eq (l : List (PyData × α)) : isortD l = l.mergeSort (PySem.W.dataLe false fun b : PyData × α => b.1) :=
  PySem.W.sort_unique (le := leD) leD_total (isortD_sorted l) fun c => isortD_filter c l
variable {R : α → β → Prop}
theorem PRel.insD {k : PyData} {a : α} {b : β} (r : R a b) : ∀ {l : List (PyData × α)} {m : List (PyData × β)}, PRel R l m → PRel R (insD (k, a) l) (insD (k, b) m)
  | _, _, .nil => .cons ⟨rfl, r⟩ .nil
  | (k1, a1) :: l, (k2, b2) :: m, .cons h t => by
    obtain ⟨rfl, h2⟩ : k1 = k2 ∧ R a1 b2 := h
    unfold Ev.insD
    have e : leD (k, a) (k1, a1) = leD (k, b) (k1, b2) := rfl
    rw [e]
    cases leD (k, b) (k1, b2) with
    | true => exact .cons ⟨rfl, r⟩ (.cons ⟨rfl, h2⟩ t)
    | false => exact .cons ⟨rfl, h2⟩ (PRel.insD r t)
theorem PRel.isortD : ∀ {l : List (PyData × α)} {m : List (PyData × β)}, PRel R l m → PRel R (isortD l) (isortD m)
  | _, _, .nil => .nil
  | (k1, a1) :: l, (k2, b2) :: m, .cons h t => by
    obtain ⟨rfl, h2⟩ : k1 = k2 ∧ R a1 b2 := h
    exact PRel.insD h2 (PRel.isortD t)
end

/-! ## what sorted collects -/
def CollectR (X : Cx) (x : V) (H : Hp) (vs : List V) : Prop :=
  vs.length ≤ sizeLine ∧ ∀ (pins : List (Addr × Obj)) (σ : L2.St) (s : Shared) (u : Value), Inv X pins σ H s → RelV x u → ∀ (A : Around) (E : Value → Shared → Prop) (Q : List Value → Shared → Prop), A.handled = none →
    (∀ us h' tk, (∀ b o, s.heap.get? b = some o → h'.get? b = some o) → Vals vs us → Q us { s with heap := h', toks := tk }) → wpAny (model X.prog X.w) A (collect u) Q E s
section
variable {X : Cx}
theorem col_seqL {H : Hp} {a : Addr} {vs : List V} (hl : ∃ (pins : List (Addr × Obj)) (σ : L2.St) (s : Shared), Inv X pins σ H s) (h : SqL X.K H a vs) : CollectR X (.ref a) H vs := by
  obtain ⟨pins, σ, s, I⟩ := hl
  refine ⟨(I.list h).choose_spec.2.2, fun pins σ s u I rx A E Q hA k => ?_⟩
  cases rx
  obtain ⟨its, rv, hl, hz⟩ := I.list h
  obtain ⟨o, ho, hc, n, hd⟩ := hl.isList
  refine wpAny_collect_seq a (.inl rfl) ho hc hd (fun h' kp => k _ h' s.toks kp (by rw [List.toList_toArray]; exact rv)) (by rw [List.size_toArray, ← rv.length]; exact hz)
theorem col_seqT {H : Hp} {a : Addr} {vs : List V} (hl : ∃ (pins : List (Addr × Obj)) (σ : L2.St) (s : Shared), Inv X pins σ H s) (h : SqT X.K H a vs) : CollectR X (.ref a) H vs := by
  obtain ⟨pins, σ, s, I⟩ := hl
  refine ⟨(I.tuple h).choose_spec.2.2, fun pins σ s u I rx A E Q hA k => ?_⟩
  cases rx
  obtain ⟨its, rv, hl, hz⟩ := I.tuple h
  obtain ⟨o, ho, hc, n, hd⟩ := hl
  refine wpAny_collect_seq a (.inr rfl) ho hc hd (fun h' kp => k _ h' s.toks kp (by rw [List.toList_toArray]; exact rv)) (by rw [List.size_toArray, ← rv.length]; exact hz)
end

/-! ## sorted(xs, ..) of whatever is collected -/
section
variable {X : Cx} {pins : List (Addr × Obj)} {σ : L2.St} {s : Shared} {H : Hp}
theorem sortedG {A : Around} {E : Value → Shared → Prop} {u : Value} {kw : List (Str × Value)} {Q : Value → Shared → Prop} {us : List V → List Value → Prop}
    (col : ∀ (E : Value → Shared → Prop) (Q : List Value → Shared → Prop), (∀ us h' tk, (∀ b o, s.heap.get? b = some o → h'.get? b = some o) → Vals vs us → Q us { s with heap := h', toks := tk }) → wpAny (model X.prog X.w) A.in1 (collect u) Q E s)
    (hz : vs.length ≤ sizeLine) (ha1 : argsOk "sorted" ⟨[u], kw⟩) (ha2 : ∀ x, argsOk "list.sort" ⟨[.ref x], kw⟩)
    (body : ∀ (us : List Value) (h' : Heap) (tk : Nat) (E' : Value → Shared → Prop), (∀ b o, s.heap.get? b = some o → h'.get? b = some o) → Vals vs us →
      wpAny (model X.prog X.w) A.in1.in1 (Builtin.«list.sort» ⟨[.ref h'.objs.size], kw⟩) (fun f s' => f = .done (.ret .none) ∧ Q (.ref h'.objs.size) s') E' { s with heap := h'.push (seqObj "list" us.toArray 0), toks := tk }) :
    wpAny (model X.prog X.w) A (call (.builtin "sorted") [u] kw) Q E s := by
  refine call_function_entry_kw kind_sorted plain_sorted entry_sorted ha1 ?_
  unfold Builtin.«sorted»
  refine wpAny_bind (m := checkCount "sorted" 1 1 _) (wpAny_pure ?_)
  refine wpAny_bind (col _ _ fun us h' tk kp rv => ?_)
  have hz' : us.length ≤ sizeLine := by rw [← rv.length]; exact hz
  refine wpAny_bind (wpAny_newList ?_ hz')
  have hoL : (h'.push (seqObj "list" us.toArray 0)).get? h'.objs.size = some (seqObj "list" us.toArray 0) := Heap.get?_push_size _ rfl
  show wpAny _ _ _ _ _ { s with heap := h'.push (seqObj "list" us.toArray 0), toks := tk }
  refine wpAny_bind (wpAny_holding (wpAny_call_entry_kw PyProof.Rows.slot_list_sort ⟨_, hoL, rfl⟩ PyProof.Rows.entry_list_sort ?body (ha2 _)))
  case body =>
    show wpAny (model X.prog X.w) A.in1.in1 (Builtin.«list.sort» ⟨[.ref h'.objs.size], kw⟩) _ _ _
    refine wpAny_mono (body us h' tk _ kp rv) (fun f s' hf => ?_) fun _ _ e => e
    obtain ⟨rfl, hq⟩ := hf
    exact ⟨_, rfl, wpAny_pure ⟨_, rfl, hq⟩⟩
theorem eachD (I : Inv X pins σ H s) : ∀ {ds : List PyData} {vs : List V} {us : List Value}, DpAll X.K H vs ds → Vals vs us → PySem.W.EachIs (fun u d => ∃ as, Reads s.heap u d as) us ds
  | [], _, _, h, r => by
    cases h
    cases r
    exact .nil
  | d :: ds, _, _, h, r => by
    cases h with
    | cons h1 h2 =>
      cases r with
      | cons r1 r2 => exact .cons (Dp.reads I d _ _ h1 r1) (eachD I h2 r2)
theorem eachZ : ∀ {ds : List PyData} {vs : List V} {us : List Value}, ds.length = vs.length → Vals vs us → PySem.W.EachIs (fun u (b : PyData × V) => RelV b.2 u) us (ds.zip vs)
  | [], [], _, _, r => by cases r; exact .nil
  | d :: ds, v :: vs, _, h, r => by
    cases r with
    | cons r1 r2 => exact .cons r1 (eachZ (by simpa using h) r2)
theorem each_vals : ∀ {us : List Value} {bs : List (PyData × V)}, PySem.W.EachIs (fun u (b : PyData × V) => RelV b.2 u) us bs → Vals (bs.map (·.2)) us
  | _, _, .nil => .nil
  | _, _, .cons h t => .cons h (each_vals t)
theorem zip_fst {α β : Type} : ∀ {ds : List α} {vs : List β}, ds.length = vs.length → (ds.zip vs).map (·.1) = ds
  | [], [], _ => rfl
  | d :: ds, v :: vs, h => by rw [List.zip_cons_cons, List.map_cons, zip_fst (by simpa using h)]
theorem DpAll.length {K : PySem.W.Frag} {H : Hp} : ∀ {vs : List V} {ds : List PyData}, DpAll K H vs ds → ds.length = vs.length
  | _, _, .nil => rfl
  | _, _, .cons _ t => by simp [DpAll.length t]
theorem insD_len {α : Type} (x : PyData × α) : ∀ (l : List (PyData × α)), (insD x l).length = l.length + 1
  | [] => rfl
  | z :: r => by
    unfold insD
    split
    · rfl
    · simp [insD_len x r]
theorem isortD_len {α : Type} : ∀ (l : List (PyData × α)), (isortD l).length = l.length
  | [] => rfl
  | x :: r => by
    show (insD x (isortD r)).length = _
    rw [insD_len, isortD_len r]; rfl
/-- sorted(xs) of data -/
theorem sorted_inv {x : V} {u : Value} {vs : List V} {ds : List PyData} {Q : VK} (I : Inv X pins σ H s) (rx : RelV x u) (hcalm : X.A.handled = none) (col : CollectR X x H vs) (hd : DpAll X.K H vs ds) (hal : PySem.W.AllAlike ds) (hk : PySem.W.Sortable ds)
    (hu : ∀ d ∈ ds, X.A.units + 2 + d.depth < cLine) (q : ∀ p, H p = none → Q (.ref p) (upd H p (.lst ((isortD (ds.zip vs)).map (·.2))))) : wpAny (model X.prog X.w) X.A (call (.builtin "sorted") [u]) (EP X pins σ Q) X.xe s := by
  have hL : ds.length = vs.length := DpAll.length hd
  refine sortedG (vs := vs) (us := fun _ _ => True) (fun E Q k => col.2 pins σ s u I rx X.A.in1 E Q hcalm k) col.1 (PyProof.Rows.args_sorted1 _) (fun _ => PyProof.Rows.args_list_sort _) fun us h' tk E' kp rv => ?_
  have I1 : Inv X pins σ H { s with heap := h', toks := tk } := I.kept kp
  have hoL : (h'.push (seqObj "list" us.toArray 0)).get? h'.objs.size = some (seqObj "list" us.toArray 0) := Heap.get?_push_size _ rfl
  have kS : ∀ b o, h'.get? b = some o → (PySem.W.sortingHeap (h'.push (seqObj "list" us.toArray 0)) h'.objs.size us).get? b = some o := fun b o e =>
    PySem.W.sortingHeap_old (Nat.ne_of_lt (Heap.lt_size e)) (Heap.get?_push_of_some _ e)
  have I2 : Inv X pins σ H { s with heap := PySem.W.sortingHeap (h'.push (seqObj "list" us.toArray 0)) h'.objs.size us, toks := tk } := I1.kept kS
  have er := eachD I2 hd rv
  have er' : PySem.W.EachIs (fun v (b : PyData × V) => ∃ as, Reads (PySem.W.sortingHeap (h'.push (seqObj "list" us.toArray 0)) h'.objs.size us) v b.1 as) us (ds.zip vs) := PySem.W.each_of_map (R := fun v d => ∃ as, Reads (PySem.W.sortingHeap (h'.push (seqObj "list" us.toArray 0)) h'.objs.size us) v d as) (fun b : PyData × V => b.1) (by rw [zip_fst hL]; exact er)
  have S := PySem.W.SortsAt.data (prog := X.prog) (w := X.w) (A := X.A.in1.in1) (s := { s with heap := PySem.W.sortingHeap (h'.push (seqObj "list" us.toArray 0)) h'.objs.size us, toks := tk }) er hal hk hu
  have hz : us.length ≤ sizeLine := by rw [← rv.length]; exact col.1
  refine PySem.W.list_sort_vals (s := { s with heap := h'.push (seqObj "list" us.toArray 0), toks := tk }) hoL S hz ⟨rfl, ?_⟩
  have each := PySem.W.sortVals_data (enc := fun b : PyData × V => b.1) false (eachZ hL rv) er' (by rw [zip_fst hL]; exact hal)
  rw [zip_fst hL, ← isortD_eq] at each
  obtain ⟨ep, he'⟩ := PyProof.Rows.sortedHeap_at (h := h'.push (seqObj "list" us.toArray 0)) (out := (PySem.W.sortVals (PySem.W.dataKind (PySem.W.sortingHeap (h'.push (seqObj "list" us.toArray 0)) h'.objs.size us) ds) false us us).toArray) hoL
  have hlen : ((isortD (ds.zip vs)).map (·.2)).length ≤ sizeLine := by
    rw [List.length_map, isortD_len, List.length_zip, hL, Nat.min_self]
    exact col.1
  refine ⟨.ref _, upd H h'.objs.size (.lst ((isortD (ds.zip vs)).map (·.2))), I1.laid (t' := tk) (fun b u e => ?_) (Nat.le_refl _) ⟨hlen, _, ep, each_vals each, he'⟩, rfl, q _ (I1.hok.fresh (Nat.le_refl _))⟩
  rw [PyProof.Rows.sortedHeap_old (Nat.ne_of_lt (Heap.lt_size e)) (by rw [PyProof.Rows.size_push']; exact Nat.lt_succ_of_lt (Heap.lt_size e))]
  exact Heap.get?_push_of_some _ e

/-! ## .. with key= -/
theorem seqL_is {h : Heap} {a : Addr} : seqObj "list" #[] 0 = seqObj "list" ([] : List Value).toArray 0 := rfl
theorem pins_drop {pl ql : List (Addr × Obj)} (I : Inv X (pins ++ pl) σ H s) (h : ∀ p ∈ ql, p ∈ pl) : Inv X (pins ++ ql) σ H s := I.pins_of fun p hp => I.pin p (List.mem_append_right _ (by
  rcases List.mem_append.mp hp with hp | hp
  · exact List.mem_append_left _ hp
  · exact List.mem_append_right _ (h p hp)))
theorem keyI {A : Around} {E : Value → Shared → Prop} {a : Addr} {f : Value} {us : List Value} {vs : List V} {Φ : Hp → List V → Prop} {Q : Value → Shared → Prop} {h' : Heap} {n : Nat}
    (I : Inv X pins σ H { s with heap := h' }) (ha : h'.objs.size ≤ a) (ho : s.heap.get? a = some (seqObj "list" us.toArray n)) (hk : ∀ b o, h'.get? b = some o → s.heap.get? b = some o) (rv : Vals vs us) (hz : vs.length ≤ sizeLine) (h0 : Φ H [])
    (step : ∀ ks v u pl H1 s1, vs[ks.length]? = some v → RelV v u → Inv X (pins ++ pl) σ H1 s1 → Φ H1 ks → wpAny (model X.prog X.w) A (call f [u]) (EP X (pins ++ pl) σ fun k H2 => Φ H2 (ks ++ [k])) (fun _ _ => False) s1)
    (fin : ∀ H1 ks s1, ks.length = vs.length → Φ H1 ks → (∃ pl, Inv X (pins ++ pl) σ H1 s1) → ∃ ds, DpAll X.K H1 ks ds ∧ PySem.W.AllAlike ds ∧ PySem.W.Sortable ds ∧ (∀ d ∈ ds, A.units + d.depth < cLine) ∧
      ∀ s2, Inv X pins σ (upd H1 a (.lst ((isortD (ds.zip vs)).map (·.2)))) s2 → H1 a = none → Q (.ref a) s2) :
    wpAny (model X.prog X.w) A (PyProof.Rows.ksk_tree a f false) (fun g s' => g = .done (.ret .none) ∧ Q (.ref a) s') E s := by
  have hlen := rv.length
  have hZ : us.length ≤ sizeLine := by rw [← hlen]; exact hz
  have hna : H a = none := I.hok.fresh ha
  obtain ⟨e1, ho1⟩ : ∃ e1, (s.heap.update a (Obj.mapSeq fun _ => (#[] : Array Value))).get? a = some (seqObj "list" #[] e1) := ⟨_, get?_update_seq ho fun _ => #[]⟩
  have hla : a < s.heap.objs.size := Heap.lt_size ho
  have hkS : ((s.heap.update a (Obj.mapSeq fun _ => (#[] : Array Value))).push (seqObj "tuple" us.toArray 0)).objs.size = s.heap.objs.size + 1 := by rw [PyProof.Rows.size_push', Heap.size_update]
  generalize hkSe : ((s.heap.update a (Obj.mapSeq fun _ => (#[] : Array Value))).push (seqObj "tuple" us.toArray 0)).objs.size = kS at hkS
  have hka : kS ≠ a := by rw [hkS]; exact Nat.ne_of_gt (Nat.lt_succ_of_lt hla)
  have hsz : h'.objs.size ≤ kS := by rw [hkS]; exact Nat.le_trans ha (Nat.le_of_lt (Nat.lt_succ_of_lt hla))
  have hnk : H kS = none := I.hok.fresh hsz
  have fa : FpOk X pins H a := I.fpOk ha hna
  have fk : FpOk X pins H kS := I.fpOk hsz hnk
  unfold PyProof.Rows.ksk_tree
  refine wpAny_bind (listItems_at ho rfl ?_)
  refine wpAny_bind (listUpdate_at ho rfl ?_ (by rw [List.size_toArray]; exact hZ) (Nat.zero_le _))
  refine wpAny_bind (seqEpoch_at ho1 rfl ?_)
  refine wpAny_bind (wpAny_newTuple ?_ (by show us.length ≤ _; exact hZ))
  refine wpAny_bind (wpAny_newList ?_ (Nat.zero_le _))
  refine wpAny_holding ?_
  have keep0 : ∀ b o, h'.get? b = some o → (((s.heap.update a (Obj.mapSeq fun _ => (#[] : Array Value))).push (seqObj "tuple" us.toArray 0)).push (seqObj "list" #[] 0)).get? b = some o := fun b o e =>
    Heap.get?_push_of_some _ (Heap.get?_push_of_some _ (((Heap.get?_update_ne _ _ _ _ (Nat.ne_of_lt (Nat.lt_of_lt_of_le (Heap.lt_size e) ha)))).trans (hk b o e)))
  have I2 : Inv X pins σ H { s with heap := ((s.heap.update a (Obj.mapSeq fun _ => (#[] : Array Value))).push (seqObj "tuple" us.toArray 0)).push (seqObj "list" #[] 0) } := I.kept (t' := s.toks) keep0
  have na0 : (((s.heap.update a (Obj.mapSeq fun _ => (#[] : Array Value))).push (seqObj "tuple" us.toArray 0)).push (seqObj "list" #[] 0)).get? a = some (seqObj "list" #[] e1) := Heap.get?_push_of_some _ (Heap.get?_push_of_some _ ho1)
  have nk0 : (((s.heap.update a (Obj.mapSeq fun _ => (#[] : Array Value))).push (seqObj "tuple" us.toArray 0)).push (seqObj "list" #[] 0)).get? kS = some (seqObj "list" #[] 0) := by rw [← hkSe]; exact Heap.get?_push_size _ rfl
  show wpAny _ _ (PyProof.Rows.ksk_rest a f false us.toArray e1 (.ref ((s.heap.update a (Obj.mapSeq fun _ => (#[] : Array Value))).push (seqObj "tuple" us.toArray 0)).objs.size)) _ _ _
  rw [hkSe]
  have pin2 : ∀ {H1 : Hp} {s1 : Shared} {kA : Array Value} {e : Nat}, Inv X (pins ++ [(a, seqObj "list" #[] e1)]) σ H1 s1 → s1.heap.get? kS = some (seqObj "list" kA e) → H1 kS = none → Inv X (pins ++ [(a, seqObj "list" #[] e1), (kS, seqObj "list" kA e)]) σ H1 s1 := fun {H1 s1 kA e} J hk1 hn => J.pins_of fun p hp => by
    rcases List.mem_append.mp hp with hp | hp
    · exact J.pin p (List.mem_append_right _ (List.mem_append_left _ hp))
    · rcases List.mem_cons.mp hp with rfl | hp
      · exact J.pin _ (List.mem_append_right _ (List.mem_append_right _ List.mem_cons_self))
      · obtain rfl := List.mem_singleton.mp hp
        exact ⟨hk1, hn, fk.2.1, fk.2.2.1, fun v => by intro z; cases z⟩
  have I3 : Inv X (pins ++ [(a, seqObj "list" #[] e1)]) σ H { s with heap := ((s.heap.update a (Obj.mapSeq fun _ => (#[] : Array Value))).push (seqObj "tuple" us.toArray 0)).push (seqObj "list" #[] 0) } := I2.pins_of fun p hp => by
    rcases List.mem_append.mp hp with hp | hp
    · exact I2.pin p (List.mem_append_right _ hp)
    · obtain rfl := List.mem_singleton.mp hp
      exact ⟨na0, hna, fa.2.1, fa.2.2.1, fun v => by intro z; cases z⟩
  unfold PyProof.Rows.ksk_rest
  refine wpAny_bind (wpAny_rule ?_)
  first
    | rw [List.forIn_toArray]
    | (rw [← Array.forIn_toList]; simp only [List.toList_toArray])
    | rw [← Array.forIn_toList]
  refine wpAny_bind (PyProof.Rows.ksk_fold (fun i s' => ∃ H1 ks kA e, Inv X (pins ++ [(a, seqObj "list" #[] e1), (kS, seqObj "list" kA e)]) σ H1 s' ∧ Φ H1 ks ∧ ks.length = i ∧ Vals ks kA.toList) us 0 _
    ⟨H, [], #[], 0, pin2 I3 nk0 hnk, h0, rfl, .nil⟩ ?step ?done)
  case step =>
    rintro j x s' hx ⟨H1, ks, kA, e, J, hp, hl, rk⟩
    rw [Nat.zero_add] at hl
    obtain ⟨v, hv, rvx⟩ : ∃ v, vs[ks.length]? = some v ∧ RelV v x := by
      rw [hl]
      have hjl : j < vs.length := by rw [hlen]; exact (List.getElem?_eq_some_iff.mp hx).1
      obtain ⟨u, hu1, hu2⟩ := rv.get (List.getElem?_eq_getElem hjl)
      rw [hx] at hu1
      cases hu1
      exact ⟨_, List.getElem?_eq_getElem hjl, hu2⟩
    have hj : j < us.length := (List.getElem?_eq_some_iff.mp hx).1
    have hzk : kA.size ≤ us.length := by
      rw [← Array.length_toList, ← rk.length, hl]
      exact Nat.le_of_lt hj
    refine wpAny_bind (wpAny_attempt (wpAny_mono (step ks v x _ H1 s' hv rvx J hp) (fun kv s2 he => ?_) fun _ _ hF => hF.elim))
    obtain ⟨k, H2, J2, rkv, hp2⟩ := he
    have pk := J2.pin (kS, seqObj "list" kA e) (List.mem_append_right _ (List.mem_append_right _ (List.mem_cons_of_mem _ List.mem_cons_self)))
    have nk2 : s2.heap.get? kS = some (seqObj "list" kA e) := pk.1
    have s1 := Heap.SameBut.update s2.heap kS (Obj.mapSeq (·.push kv))
    obtain ⟨c2, hc2⟩ : ∃ c2, (s2.heap.update kS (Obj.mapSeq (·.push kv))).get? kS = some (seqObj "list" (kA.push kv) c2) := ⟨_, get?_update_seq nk2 (·.push kv)⟩
    have ea : (kA.push kv).toList = kA.toList ++ [kv] := by simp
    refine wpAny_bind (listUpdate_at nk2 rfl ?_ (Nat.le_trans hzk hZ) (Nat.le_trans (Nat.le_of_eq (Array.size_push ..)) (Nat.succ_le_succ (Nat.le_trans hzk hZ))))
    have J3 : Inv X (pins ++ [(a, seqObj "list" #[] e1)]) σ H2 s2 := pins_drop J2 fun p hp => by rw [List.mem_singleton.mp hp]; exact List.mem_cons_self
    have J4 : Inv X (pins ++ [(a, seqObj "list" #[] e1)]) σ H2 { s2 with heap := s2.heap.update kS (Obj.mapSeq (·.push kv)) } := J3.turned (t' := s2.toks) (it := kS) (fun b o hb e => (s1.2 b hb).trans e) pk.2.1 fk.2.1 fk.2.2.2.1 fk.2.2.2.2.1 fun p hp => by
      rw [← List.append_assoc] at hp
      rcases List.mem_append.mp hp with hp | hp
      · exact fk.2.2.2.2.2 p hp
      · rw [List.mem_singleton.mp hp]; exact hka.symm
    refine wpAny_pure ⟨rfl, H2, ks ++ [k], kA.push kv, c2, pin2 J4 hc2 pk.2.1, hp2, by rw [List.length_append, hl]; simp, ?_⟩
    rw [ea]
    exact rk.append (.cons rkv .nil)
  case done =>
    rintro s' ⟨H1, ks, kA, e, J, hp, hl, rk⟩
    rw [Nat.zero_add] at hl
    have hkl : ks.length = vs.length := by rw [hl, hlen]
    obtain ⟨ds, hd, hal, hsk, hu, q⟩ := fin H1 ks s' hkl hp ⟨_, J⟩
    have pk := J.pin (kS, seqObj "list" kA e) (List.mem_append_right _ (List.mem_append_right _ (List.mem_cons_of_mem _ List.mem_cons_self)))
    have pa := J.pin (a, seqObj "list" #[] e1) (List.mem_append_right _ (List.mem_append_right _ List.mem_cons_self))
    have hdl : ds.length = vs.length := (DpAll.length hd).trans hkl
    have er := eachD J hd rk
    have hkA : kA.size = us.length := by rw [← Array.length_toList, ← rk.length, hl]
    try dsimp only
    refine wpAny_bind (listItems_at pk.1 rfl ?_)
    obtain ⟨G, g1, g2⟩ := restrict s'.heap fun b => !(b == kS)
    have kp : PySem.W.KeepsBut a G s'.heap := fun b o hb eq => by
      cases hq : !(b == kS) with
      | true => rw [← g1 b hq]; exact eq
      | false => rw [g2 b hq] at eq; cases eq
    refine PySem.W.keyH_end (κ := PySem.W.dataKind s'.heap ds) (h₁ := G) kp (g2 kS (by simp)) pk.1 pa.1 hka (PySem.W.SortsAt.data (s := s') er hal hsk hu) hkA hZ fun h3 tk3 c k3 n3 => ⟨rfl, ?_⟩
    have J0 : Inv X pins σ H1 s' := J.unpinned
    have fa1 : FpOk X pins H1 a := ⟨pa.2.1, fa.2⟩
    have fk1 : FpOk X pins H1 kS := ⟨pk.2.1, fk.2⟩
    have J5 : Inv X pins σ H1 { s' with heap := h3, toks := tk3 } := J0.turnedL (ch := [a, kS]) (fun b o hb eq => k3 b o (fun z => hb (by simp [z])) (by
      rw [g1 b (by simp only [Bool.not_eq_true', beq_eq_false_iff_ne]; intro z; exact hb (by simp [z]))]
      exact eq)) fun b hb => by
        rcases List.mem_cons.mp hb with rfl | hb
        · exact fa1
        · obtain rfl := List.mem_singleton.mp hb
          exact fk1
    have each := PySem.W.keyedOut_each (rev := false) (bs := ds.zip vs) (fun b : PyData × V => b.1) (out := PySem.W.sortVals (PySem.W.dataKind s'.heap ds) false kA.toList us) (vs := us) (by rw [zip_fst hdl]; exact ⟨s'.heap, kA.toList, hal, rfl, er⟩) (eachZ hdl rv)
    rw [← isortD_eq] at each
    have hlo : ((isortD (ds.zip vs)).map (·.2)).length ≤ sizeLine := by
      rw [List.length_map, isortD_len, List.length_zip, hdl, Nat.min_self]
      exact hz
    have J6 : Inv X pins σ (upd H1 a (.lst ((isortD (ds.zip vs)).map (·.2)))) { s' with heap := h3, toks := tk3 } := L2.Inv.take (s := { s' with heap := h3, toks := tk3 }) (h' := h3) (t' := tk3) J5 (fun _ _ _ e => e) fa1 ⟨hlo, _, c, each_vals each, n3⟩
    exact q _ J6 pa.2.1
/-- sorted(xs, key=f) -/
theorem sortedK_inv {x : V} {u : Value} {f : Addr} {vs : List V} {Φ : Hp → List V → Prop} {Q : VK} (I : Inv X pins σ H s) (rx : RelV x u) (hcalm : X.A.handled = none) (col : CollectR X x H vs) (h0 : Φ H [])
    (step : ∀ ks v u pl H1 s1, vs[ks.length]? = some v → RelV v u → Inv X (pins ++ pl) σ H1 s1 → Φ H1 ks → wpAny (model X.prog X.w) X.A.in1.in1 (call (.ref f) [u]) (EP X (pins ++ pl) σ fun k H2 => Φ H2 (ks ++ [k])) (fun _ _ => False) s1)
    (fin : ∀ H1 ks s1, ks.length = vs.length → Φ H1 ks → (∃ pl, Inv X (pins ++ pl) σ H1 s1) → ∃ ds, DpAll X.K H1 ks ds ∧ PySem.W.AllAlike ds ∧ PySem.W.Sortable ds ∧ (∀ d ∈ ds, X.A.units + 2 + d.depth < cLine) ∧
      ∀ p, H1 p = none → Q (.ref p) (upd H1 p (.lst ((isortD (ds.zip vs)).map (·.2))))) :
    wpAny (model X.prog X.w) X.A (call (.builtin "sorted") [u] [(Str.ofString "key", .ref f)]) (EP X pins σ Q) X.xe s := by
  refine sortedG (vs := vs) (us := fun _ _ => True) (fun E Q k => col.2 pins σ s u I rx X.A.in1 E Q hcalm k) col.1 (PyProof.Rows.ksk_s1 _ _) (fun _ => PyProof.Rows.ksk_l1 _ _) fun us h' tk E' kp rv => ?_
  have I1 : Inv X pins σ H { s with heap := h', toks := tk } := I.kept kp
  rw [PyProof.Rows.ksk_t1]
  refine keyI (s := { s with heap := h'.push (seqObj "list" us.toArray 0), toks := tk }) (h' := h') (Φ := Φ) I1 (Nat.le_refl _) (Heap.get?_push_size _ rfl) (fun b o e => Heap.get?_push_of_some _ e) rv col.1 h0 step fun H1 ks s1 hl hp hI => ?_
  obtain ⟨ds, h1, h2, h3, h4, h5⟩ := fin H1 ks s1 hl hp hI
  exact ⟨ds, h1, h2, h3, h4, fun s2 J hn => ⟨.ref _, _, J, rfl, h5 _ hn⟩⟩
end
end Ev

namespace Ev
open PySem L2 PySem.Spec PyProof.Rows PySem.Calls

def tupB : PyData → Bool
  | .tuple (_ :: _) => true
  | _ => false
def othB : PyData → Bool
  | .none => false
  | .tuple _ => false
  | _ => true
def okSort (ds : List PyData) : Bool := (ds.all fun a => ds.all fun b => PySem.W.alike a b) && (ds.all tupB || ds.all othB) && ds.all fun d => Nat.ble d.depth 60
theorem okSort_ok {ds : List PyData} (h : okSort ds = true) : PySem.W.AllAlike ds ∧ PySem.W.Sortable ds ∧ ∀ d ∈ ds, d.depth ≤ 60 := by
  unfold okSort at h
  rw [Bool.and_eq_true, Bool.and_eq_true, Bool.or_eq_true] at h
  obtain ⟨⟨h1, h2⟩, h3⟩ := h
  rw [List.all_eq_true] at h1 h3
  refine ⟨fun d hd e he => List.all_eq_true.mp (h1 d hd) e he, ?_, fun d hd => Nat.le_of_ble_eq_true (h3 d hd)⟩
  rcases h2 with h2 | h2
  · refine .inl fun d hd => ?_
    have q := List.all_eq_true.mp h2 d hd
    unfold tupB at q
    split at q
    · exact ⟨_, _, rfl⟩
    · cases q
  · refine .inr fun d hd => ?_
    have q := List.all_eq_true.mp h2 d hd
    unfold othB at q
    split at q
    · cases q
    · cases q
    · rename_i n1 n2
      exact ⟨n1, n2⟩
def intK : List (Key × SV) → Option (List Int)
  | [] => some []
  | (.inl i, _) :: r => match intK r with
    | some ks => some (i :: ks)
    | none => none
  | (.inr _, _) :: _ => none
def sortSV (xs : List SV) (ds : List PyData) (h : VH) : EvR := match okSort ds with
  | true => mkLst ((isortD (ds.zip xs)).map (·.2)) h
  | false => none
def colOf (h : VH) (a : SV) : Option (List SV) := match seqOf h a with
  | some xs => some xs
  | none => match dkOf h a with
    | some kvs => (match intK kvs with
      | some ks => some (ks.map SV.int)
      | none => none)
    | none => none
def sortedAll : List SV → VH → EvR
  | [a], h => match colOf h a with
    | some xs => (match toDs xs with
      | some ds => sortSV xs ds h
      | none => none)
    | none => none
  | _, _ => none
def ColV (X : Cx) (x : V) (H : Hp) (vs : List V) : Prop := (∃ a, x = .ref a ∧ (SqL X.K H a vs ∨ SqT X.K H a vs)) ∨ ∃ (a : Addr) (kvs : List (Key × V)) (ks : List Int), (x = .ref a ∧ Rd H a (.dK kvs) ∧ kvs.map (·.1) = ks.map Sum.inl ∧ vs = ks.map V.int) ∨ (x = .ref a ∧ ∃ n : Nat, n ≤ 4000 ∧ H a = some (.rng 0 n) ∧ ks = (List.range n).map Int.ofNat ∧ vs = ks.map V.int)
section
variable {X : Cx} {pins : List (Addr × Obj)} {σ : L2.St} {s : Shared} {H : Hp}
theorem vals_of_ints' {us : List Value} {ks : List Int} (h : IntsAre us ks) : Vals (ks.map V.int) us := vals_of_ints h
theorem colV (hcalm : X.calm = true) {x : V} {vs : List V} (I : Inv X pins σ H s) (h : ColV X x H vs) : CollectR X x H vs := by
  rcases h with ⟨a, rfl, h | h⟩ | ⟨a, kvs, ks, ⟨rfl, hd, hks, rfl⟩ | ⟨rfl, n, hn, hr, rfl, rfl⟩⟩
  · exact col_seqL ⟨_, _, _, I⟩ h
  · exact col_seqT ⟨_, _, _, I⟩ h
  · have hn : (ks.map V.int).length ≤ sizeLine := by
      obtain ⟨z, _⟩ := dk_rd I.hok hd
      have e := congrArg List.length hks
      rw [List.length_map, List.length_map] at e
      rw [List.length_map, ← e]
      exact z
    refine ⟨hn, fun pins σ s u I rx A E Q hA k => ?_⟩
    cases rx
    obtain ⟨z, lo, vs, rel, dd⟩ := dk_rd I.hok hd
    obtain ⟨ep, hat⟩ := dd.dictAt
    have hkeys : vs.map (·.1) = ks.map Sum.inl := rel.keys.symm.trans hks
    have hl : vs.length = ks.length := by
      have e := congrArg List.length hkeys
      rw [List.length_map, List.length_map] at e
      exact e
    have h16 : vs.length ≤ sizeLine := by rw [hl, ← List.length_map (f := V.int)]; exact hn
    refine PySem.W.kdu_collect (A := A) (PySem.W.kdl_dict (knd := mixKind X.prog X.w) (kvs := vs) (ep := ep) lo) hA hat h16 fun h' tk acc hk hacc => ?_
    have hal : acc.toList.length = ks.length := by rw [Array.length_toList, hacc.1, hl]
    have hS : IntsAre acc.toList ks := ints_each hal fun j v e => by
      obtain ⟨k, x, e1, e2⟩ := hacc.2 j v (by rw [← Array.getElem?_toList]; exact e)
      have e3 : (vs.map (·.1))[j]? = some k := by rw [List.getElem?_map, e1]; rfl
      rw [hkeys, List.getElem?_map] at e3
      cases e4 : ks[j]? with
      | none => rw [e4] at e3; cases e3
      | some y =>
        rw [e4] at e3
        have e5 : Sum.inl y = k := Option.some.inj e3
        subst e5
        rcases keyIs_shape (show keyIs (Sum.inl y) v = true from e2) with ⟨i, t, ek, ev⟩ | ⟨z, t, ek, ev⟩
        · cases ek
          exact ⟨y, t, rfl, ev⟩
        · cases ek
    exact k _ h' tk hk (vals_of_ints hS)
  · refine ⟨by rw [List.length_map, List.length_map, List.length_range, sizeLine_eq]; omega, fun pins σ s u I rx A E Q hA k => ?_⟩
    cases rx
    obtain ⟨t, u, v, ho⟩ := I.hok a _ hr
    have e2 : Builtin.Range.rangeSize 0 (n : Int) 1 = (n : Int) := by rw [rangeSize_one]; split <;> omega
    refine collect_range (n := n) hA ho (small_one (by omega) (by omega) (by omega) (by omega)) e2 (by omega) fun h' tk acc hk hacc => k _ h' tk hk (vals_of_ints (ints_each ?_ fun j v e => ?_))
    · rw [Array.length_toList, hacc.1, List.length_map, List.length_range]
    · obtain ⟨t', e'⟩ := hacc.2 j v (by rw [← Array.getElem?_toList]; exact e)
      have hj : j < n := by
        have q := (List.getElem?_eq_some_iff.mp e).1
        rw [Array.length_toList, hacc.1] at q
        exact q
      refine ⟨_, t', by rw [List.getElem?_map, List.getElem?_range hj]; rfl, ?_⟩
      rw [e']
      simp
def rSortedAll (X : Cx) : List V → Hp → VK → Prop := fun vs H Q => ∃ x us ds, vs = [x] ∧ ColV X x H us ∧ DpAll X.K H us ds ∧ PySem.W.AllAlike ds ∧ PySem.W.Sortable ds ∧ (∀ d ∈ ds, d.depth ≤ 60) ∧
  ∀ p, H p = none → Q (.ref p) (upd H p (.lst ((isortD (ds.zip us)).map (·.2))))
theorem cr_sortedAll (hc : X.calm = true) (hu : X.A.units + 66 < cLine) : CallR X (.builtin "sorted") (rSortedAll X) := by
  intro pins s σ H vs us Q I r h
  obtain ⟨x, ws, ds, rfl, hx, hd, hal, hk, hz, q⟩ := h
  obtain ⟨u, rfl, rx⟩ := vals1 r
  exact sorted_inv I rx (I.ok.hd hc) (colV hc I hx) hd hal hk (fun d hd => by have := hz d hd; omega) q
end
section
variable {C : Bd} {X : Cx} {ρ : List Addr} {h : VH} {H : Hp}
theorem intK_ok : ∀ {kvs : List (Key × SV)} {vs : List (Key × V)} {ks : List Int}, PRel (fun x q => VR X.K ρ H x q) kvs vs → intK kvs = some ks → vs.map (·.1) = ks.map Sum.inl
  | _, _, _, .nil, e => by cases e; rfl
  | (k, x) :: kvs, (k2, v) :: vs, ks, .cons r t, e => by
    obtain ⟨rfl, _⟩ : k = k2 ∧ VR X.K ρ H x v := r
    unfold intK at e
    split at e
    · rename_i heq
      cases heq
    · rename_i heq
      cases heq
      split at e
      · rename_i ks' e2
        cases e
        rw [List.map_cons, List.map_cons, intK_ok t e2]
      · cases e
    · cases e
theorem vrs_ints : ∀ (ks : List Int), VRs X.K ρ H (ks.map SV.int) (ks.map V.int)
  | [] => .nil
  | k :: ks => .cons (.int k) (vrs_ints ks)
theorem colOf_ok (S : Sim C X.prog X.w X.K ρ h H) {a : SV} {v : V} {xs : List SV} (r : VR X.K ρ H a v) (e : colOf h a = some xs) : ∃ vs, ColV X v H vs ∧ VRs X.K ρ H xs vs := by
  unfold colOf at e
  split at e
  · rename_i ys es
    cases e
    obtain ⟨p, vs, rfl, hs, rs⟩ := seqOf_ok S r es
    exact ⟨vs, .inl ⟨p, rfl, hs⟩, rs⟩
  · split at e
    · rename_i kvs ek
      split at e
      · rename_i ks ei
        cases e
        obtain ⟨d, us, rfl, hd, rel⟩ := dkOf_ok S r ek
        exact ⟨_, .inr ⟨d, us, ks, .inl ⟨rfl, .inl hd, intK_ok rel ei, rfl⟩⟩, vrs_ints ks⟩
      · cases e
    · cases e
theorem zip_rel : ∀ {ds : List PyData} {xs : List SV} {vs : List V}, VRs X.K ρ H xs vs → PRel (fun x v => VR X.K ρ H x v) (ds.zip xs) (ds.zip vs)
  | [], _, _, _ => .nil
  | d :: ds, _, _, .nil => .nil
  | d :: ds, _, _, .cons r t => .cons ⟨rfl, r⟩ (zip_rel t)
theorem prel_vrs : ∀ {l : List (PyData × SV)} {m : List (PyData × V)}, PRel (fun x v => VR X.K ρ H x v) l m → VRs X.K ρ H (l.map (·.2)) (m.map (·.2))
  | _, _, .nil => .nil
  | _, _, .cons r t => .cons r.2 (prel_vrs t)
theorem sorted_vrs {ds : List PyData} {xs : List SV} {vs : List V} (r : VRs X.K ρ H xs vs) : VRs X.K ρ H ((isortD (ds.zip xs)).map (·.2)) ((isortD (ds.zip vs)).map (·.2)) := prel_vrs (PRel.isortD (zip_rel r))
theorem sortedAll_ok : PrL C X.prog X.w X.K (rSortedAll X) sortedAll := by
  intro ρ h H xs vs Q S rs k
  obtain ⟨v, h', e, _⟩ := id k
  unfold sortedAll at e
  split at e
  · rename_i a
    obtain _ | ⟨ra, rt⟩ := rs
    cases rt
    split at e
    · rename_i ys ec
      split at e
      · rename_i ds ed
        unfold sortSV at e
        split at e
        · rename_i hk
          obtain ⟨us, hc, ru⟩ := colOf_ok S ra ec
          obtain ⟨h1, h2, h3⟩ := okSort_ok hk
          refine ⟨_, us, ds, rfl, hc, toDs_ok ys us ds ed ru, h1, h2, h3, (mkLst_ok (Q := Q) S (sorted_vrs ru) ?_).2⟩
          unfold sortedAll at k; simp only [] at k; rw [ec] at k; simp only [] at k; rw [ed] at k; simp only [] at k; unfold sortSV at k; rw [hk] at k; exact k
        · cases e
      · cases e
    · cases e
  · cases e
end

/-! ## key=f, f a def of the text -/
def mapF (f : List SV → VH → EvR) : List SV → VH → Option (List SV × VH)
  | [], h => some ([], h)
  | x :: xs, h => match f [x] h with
    | some (k, h1) => (match mapF f xs h1 with
      | some (ks, h2) => some (k :: ks, h2)
      | none => none)
    | none => none
def sortKP (f : List SV → VH → EvR) : List SV → VH → EvR
  | [a], h => match colOf h a with
    | some xs => (match mapF f xs h with
      | some (ks, h2) => (match toDs ks with
        | some ds => sortSV xs ds h2
        | none => none)
      | none => none)
    | none => none
  | _, _ => none
def evSortK (f : List SV → VH → EvR) (fs : AF) : EF := evArgs (sortKP f) fs
section
variable {C : Bd} {X : Cx} {n k : Nat} {f : List SV → VH → EvR} {ad : Addr}
theorem stepK {pl : List (Addr × Obj)} {σ : L2.St} {H : Hp} {s : Shared} {us : List Value} {vs : List V} {Q : VK} (G : OkF C X.prog X.w X.K X.mg X.base k ad n f) (hr : Room k X.A.in1.in1) (I : Inv X pl σ H s) (ru : Vals vs us) (h : spEv C X.prog X.w X.K n f vs H Q E0) :
    wpAny (model X.prog X.w) X.A.in1.in1 (call (.ref ad) us) (EP X pl σ Q) (fun _ _ => False) s := by
  obtain ⟨fd, ps, F, hB⟩ := G.ex
  have hl : (us ++ []).length = ps.length := by rw [List.append_nil, ← ru.length]; exact F.len _ _ _ _ h
  have hb := hB s us I.kIn hl
  rw [List.append_nil] at hb
  refine wpAny_call (codeAny_mono (F.run X.A.in1.in1 X.stack s H ⟨us, []⟩ us vs Q E0 hr I.env0.in1.in1 hb ru h) fun r s' hq => ?_)
  cases r with
  | error e => exact hq
  | ok fl =>
    cases fl with
    | ret u => exact I.after hq
    | next => exact False.elim hq
    | brk => exact False.elim hq
    | cont => exact False.elim hq
/-- sorted by a key that an evaluator gives, one call at a time -/
theorem sortF_inv {f : List SV → VH → EvR} {pins : List (Addr × Obj)} {σ : L2.St} {H : Hp} {s : Shared} {ρ : List Addr} {h : VH} {x : V} {u : Value} {fo : Addr} {vs : List V} {xs : List SV} {Q : VK} (I : Inv X pins σ H s) (rx : RelV x u) (hcalm : X.A.handled = none) (hu : X.A.units + 66 < cLine) (col : CollectR X x H vs)
    (S : Sim C X.prog X.w X.K ρ h H) (ru : VRs X.K ρ H xs vs)
    (stp : ∀ (pl : List (Addr × Obj)) (H1 : Hp) (s1 : Shared) (v : V) (uv : Value) (Q1 : VK) (ρ1 : List Addr) (hh : VH) (y : SV), RelV v uv → Inv X (pins ++ pl) σ H1 s1 → Ext X.K ρ H ρ1 H1 → Sim C X.prog X.w X.K ρ1 hh H1 → VR X.K ρ1 H1 y v → tK C X.prog X.w X.K (f [y] hh) ρ1 H1 Q1 → wpAny (model X.prog X.w) X.A.in1.in1 (call (.ref fo) [uv]) (EP X (pins ++ pl) σ Q1) (fun _ _ => False) s1)
    (kk : tK C X.prog X.w X.K (match mapF f xs h with
      | some (ks, h2) => (match toDs ks with
        | some ds => sortSV xs ds h2
        | none => none)
      | none => none) ρ H Q) :
    wpAny (model X.prog X.w) X.A (call (.builtin "sorted") [u] [(Str.ofString "key", .ref fo)]) (EP X pins σ Q) X.xe s := by
  obtain ⟨v, h', e, kq⟩ := id kk
  split at e
  · rename_i ks h2 em
    split at e
    · rename_i ds ed
      unfold sortSV at e
      split at e
      · rename_i hk
        obtain ⟨o1, o2, o3⟩ := okSort_ok hk
        refine sortedK_inv (vs := vs) (Φ := fun H1 ws => ∃ ρ1 hh ksv rest, Ext X.K ρ H ρ1 H1 ∧ Sim C X.prog X.w X.K ρ1 hh H1 ∧ VRs X.K ρ1 H1 ksv ws ∧ mapF f (xs.drop ws.length) hh = some (rest, h2) ∧ ksv ++ rest = ks) I rx hcalm col
          ⟨ρ, h, [], ks, .refl, S, .nil, em, rfl⟩ (fun ws v1 u1 pl H1 s1 hv r1 J hp => ?_) (fun H1 ws s1 hl hp hI => ?_)
        · obtain ⟨ρ1, hh, ksv, rest, E1, S1, rk, em1, ek⟩ := hp
          have hlt : ws.length < vs.length := (List.getElem?_eq_some_iff.mp hv).1
          have hlx : ws.length < xs.length := by rw [ru.length]; exact hlt
          obtain ⟨v2, hv2, rv2⟩ := ru.get (List.getElem?_eq_getElem hlx)
          rw [hv] at hv2
          cases hv2
          rw [List.drop_eq_getElem_cons hlx] at em1
          unfold mapF at em1
          split at em1
          · rename_i kx hh1 ef
            split at em1
            · rename_i kr hh2 em2
              cases em1
              refine stp pl H1 s1 v1 u1 _ ρ1 hh _ r1 J E1 S1 (rv2.mono E1) ⟨kx, hh1, ef, fun ρ2 H2 kv x2 S2 rkv => ?_⟩
              refine ⟨ρ2, hh1, ksv ++ [kx], kr, E1.trans x2, S2, (rk.mono x2).append (.cons rkv .nil), ?_, by rw [List.append_assoc]; exact ek⟩
              rw [List.length_append]
              exact em2
            · cases em1
          · cases em1
        · obtain ⟨ρ1, hh, ksv, rest, E1, S1, rk, em1, ek⟩ := hp
          rw [List.drop_of_length_le (by rw [ru.length, hl]; exact Nat.le_refl _)] at em1
          cases em1
          rw [List.append_nil] at ek
          subst ek
          refine ⟨ds, toDs_ok ksv ws ds ed rk, o1, o2, fun d hd => (by have := o3 d hd; omega), (mkLst_ok (Q := Q) S1 (sorted_vrs (ru.mono E1)) ⟨v, h', e, fun ρ2 H2 v2 x2 S2 r2 => kq ρ2 H2 v2 (E1.trans x2) S2 r2⟩).2⟩
      · cases e
    · cases e
  · cases e
theorem Room.in2 {A : Around} (r : Room (k + 1) A) : Room k A.in1.in1 :=
  ⟨r.hd, by have := r.dp; show A.depth + 3 * k + 5 < _; omega, by have := r.un; show A.units + 1 + 1 + 16 * k + 200 < _; omega⟩
theorem xSortK {e : Expr} {es : List Expr} {fs : AF} {x : Str} {p kp kpos pos : Pos} (G : OkF C X.prog X.w X.K X.mg X.base k ad n f) (har : Arity n f) (hr : Room (k + 1) X.A) (hc : X.calm = true) (hm : X.mg x = some (.ref ad)) (hb : X.mg "sorted" = none) (ha : GA C X (e :: es) fs)
    (hgx : Gl X x := by rfl) (hdx : (x == ("__debug__" : Str)) = false := by decide) (hg : Gl X "sorted" := by rfl)
    (he : backTo pos (starEach (e :: es) X.env) = (false, eval e X.env) :: backTo pos (starEach es X.env) := by rfl) (hpl : (backTo pos (starEach (e :: es) X.env)).any (·.1) = false := by rfl)
    (hall : (backToKw pos (keywordEach [⟨some "key", .Name x kp, kpos⟩] X.env)).all (·.1.isSome) = true := by rfl) (hnone : (backToKw pos (keywordEach [⟨some "key", .Name x kp, kpos⟩] X.env)).any (·.1.isNone) = false := by rfl) (hks : (backToKw pos (keywordEach [⟨some "key", .Name x kp, kpos⟩] X.env)).filterMap (·.1) = [Str.ofString "key"] := by rfl) :
    GE C X (.Call (.Name "sorted" p) (e :: es) [⟨some "key", .Name x kp, kpos⟩] pos) (evSortK f fs) := by
  refine PE.imp (pe_callBK (r := fun vs zs H Q => zs = [.ref ad] ∧ ∃ ρ h xs, Sim C X.prog X.w X.K ρ h H ∧ VRs X.K ρ H xs vs ∧ tK C X.prog X.w X.K (sortKP f xs h) ρ H Q) (ks := [Str.ofString "key"]) (id := "sorted") ?_ hg hb (by decide +kernel) ha (pk_cons (pe_glob hgx hm (show RelV (.ref ad) (.ref ad) from rfl) hdx) pk_nil) (by decide) (by decide) he hpl hall hnone hks) ?_
  · intro pins s σ H vs zs us ws Q I r rz h
    obtain ⟨rfl, ρ, vh, xs, S, rs, kk⟩ := h
    obtain ⟨w1, rfl, e1⟩ := vals1 rz
    obtain rfl : w1 = Value.ref ad := e1
    obtain ⟨v, h', e, kq⟩ := id kk
    unfold sortKP at e
    split at e
    · rename_i a
      obtain _ | ⟨ra, rt⟩ := rs
      cases rt
      obtain ⟨u, rfl, rx⟩ := vals1 r
      split at e
      · rename_i ys ec
        obtain ⟨ws, hcv, ru⟩ := colOf_ok S ra ec
        have hun := hr.un
        refine sortF_inv (f := f) I rx (I.ok.hd hc) (by omega) (colV hc I hcv) S ru (fun pl H1 s1 v uv Q1 ρ1 hh y rv J _ S1 ry kk => stepK G (Room.in2 hr) J (.cons rv .nil) (sp_ar har S1 (.cons ry .nil) kk)) ?_
        unfold sortKP at kk; simp only [] at kk; rw [ec] at kk; exact kk
      · cases e
    · cases e
  · intro σ H Q q
    obtain ⟨ρ, l, h, S, L, v, h', e, kq⟩ := q
    unfold evSortK evArgs at e
    split at e
    · rename_i xs h1 ea
      refine ⟨ρ, l, h, S, L, xs, h1, ea, fun ρ1 H1 vs x1 S1 rs => ?_⟩
      exact ⟨rfl, ρ1, h1, xs, S1, rs, v, h', e, fun ρ2 H2 v2 x2 S2 r2 => kq ρ2 H2 v2 (x1.trans x2) S2 r2⟩
    · cases e
end
end Ev

/-! set(xs), xs a list or tuple of unlike texts: HandS.Strs' road (no text or one) with more of them -/
namespace Ev
open PySem PySem.Spec PyProof.Rows
theorem nodup_take {xs : List Str} (h : xs.Nodup) {i : Nat} (hi : i < xs.length) : ((xs.take i).any (· == xs[i])) = false := by
  cases hb : (xs.take i).any (· == xs[i]) with
  | false => rfl
  | true =>
    obtain ⟨y, hy, ey⟩ := List.any_eq_true.mp hb
    have ey2 : y = xs[i] := eq_of_beq ey
    rw [ey2] at hy
    obtain ⟨j, hj⟩ := List.mem_iff_getElem?.mp hy
    rw [List.getElem?_take] at hj
    by_cases hji : j < i
    · rw [if_pos hji] at hj
      obtain ⟨hjl, ej⟩ := List.getElem?_eq_some_iff.mp hj
      exact absurd ej (List.pairwise_iff_getElem.mp h j i hjl hi hji)
    · rw [if_neg hji] at hj
      cases hj
section
variable {prog : Program} {w : World} {A : Around} {R : Result → Shared → Prop} {I : Addr} {fp wr : List Addr} {G : Array GenState → Array GenState → Prop} {n : Nat} {P : Nat → Value → Prop} {St : Nat → Shared → Prop}
theorem loopTx (W : WalksS prog w A.in1 I fp wr G n P St) (S : Addr) (hSf : S ∉ fp) (xs : List Str) (hsz : xs.length = n) (hnd : xs.Nodup) (hn1 : n < 4000)
    (hval : ∀ i v, P i v → ∃ t, v = .str (xs.getD i Str.empty) t) :
    ∀ (k i : Nat) (s : Shared), n - i = k → i ≤ n → St i s →
      s.heap.SetOf (PySem.strKind prog w) S (fun k' => (xs.take i).any (· == k')) i →
      (∀ s', Moved (S :: wr) G s s' → s'.heap.SetOf (PySem.strKind prog w) S (fun k' => (xs.take n).any (· == k')) n → R (.ok (.ret .none)) s') →
      codeAny (model prog w) A (.builtin "set.update.loop" ⟨[.ref S, .ref I], []⟩) R s := by
  have hSw : S ∉ wr := fun h => hSf (W.sub _ h)
  have hsub : ∀ b ∈ wr, b ∈ S :: wr := fun b hb => List.mem_cons_of_mem _ hb
  intro k
  induction k with
  | zero =>
    intro i s hk hi hst hS hR
    have hin : i = n := by omega
    subst hin
    refine codeAny_builtin PyProof.Rows.F.entry_set_update_loop ?_
    rw [Around.under_plainId PyProof.Rows.F.plain_set_update_loop _]
    show wpAny _ A.in1 (pyNext (.ref I) >>= _) _ _ s
    refine wpAny_bind (W.done s _ _ hst fun s' hm => ?_)
    show wpAny _ A.in1 (ret Value.none) _ _ s'
    exact wpAny_pure (hR s' (hm.mono hsub) (by
      obtain ⟨o, es, ep, t, ho, rest⟩ := hS
      exact ⟨o, es, ep, t, hm.heap S _ hSw ho, rest⟩))
  | succ k ih =>
    intro i s hk hi hst hS hR
    have hlt : i < n := by omega
    refine codeAny_builtin PyProof.Rows.F.entry_set_update_loop ?_
    rw [Around.under_plainId PyProof.Rows.F.plain_set_update_loop _]
    show wpAny _ A.in1 (pyNext (.ref I) >>= _) _ _ s
    refine wpAny_bind (W.item i s _ _ hlt hst fun v s' hP hst' hm => ?_)
    obtain ⟨t, rfl⟩ := hval i v hP
    have hS' : s'.heap.SetOf (PySem.strKind prog w) S (fun k' => (xs.take i).any (· == k')) i := by
      obtain ⟨o, es, ep, tb, ho, rest⟩ := hS
      exact ⟨o, es, ep, tb, hm.heap S _ hSw ho, rest⟩
    show wpAny _ A.in1 (holding [Value.str (xs.getD i Str.empty) t] (setAdd S (.str (xs.getD i Str.empty) t)) >>= _) _ _ s'
    refine wpAny_bind (wpAny_holding ?_)
    unfold setAdd
    refine wpAny_holding ?_
    refine wpAny_bind ((PySem.strKind prog w).pyHash (k := xs.getD i Str.empty) (strKind_is _ _ _ _) ?_)
    refine wpAny_setAddHashed_of (knd := PySem.strKind prog w) (s := { s' with toks := s'.toks + 1 }) (strKind_is _ _ _ _) rfl hS' (by unfold scanBound; omega) fun h' hsb hS2 => ?_
    have hSi : h'.SetOf (PySem.strKind prog w) S (fun k' => (xs.take (i + 1)).any (· == k')) (i + 1) := by
      have hlx : i < xs.length := by rw [hsz]; exact hlt
      have e1 : xs.getD i Str.empty = xs[i] := by rw [List.getD_eq_getElem?_getD, List.getElem?_eq_getElem hlx]; rfl
      have e2 : xs.take (i + 1) = xs.take i ++ [xs[i]] := by rw [List.take_add_one, List.getElem?_eq_getElem hlx]; rfl
      have no : ((xs.take i).any (· == xs[i])) = false := nodup_take hnd hlx
      rw [e1] at hS2
      refine SetOf_congr hS2 (fun k' => ?_) (by rw [if_neg (by rw [no]; exact Bool.false_ne_true)])
      rw [e2, List.any_append]
      refine congrArg (fun b => (xs.take i).any (· == k') || b) ?_
      simp only [List.any_cons, List.any_nil, Bool.or_false]
      by_cases e : k' = xs[i]
      · subst e; simp
      · rw [decide_eq_false e]; exact (beq_eq_false_iff_ne.mpr fun z => e z.symm).symm
    refine wpAny_pure ⟨plainId_quiet PyProof.Rows.F.plain_set_update_loop _, ih (i + 1) _ (by omega) hlt (W.frame _ s' _ _ hst' (Nat.le_succ _) fun b hb o e => ?_) hSi fun s'' hm'' hS'' => ?_⟩
    · rw [hsb.2 b (fun h : b = S => hSf (by rw [← h]; exact hb))]; exact e
    · refine hR s'' (Moved.trans W.gtrans ((hm.mono hsub).then_heap (Nat.le_succ _) fun b o hb e => ?_) hm'') hS''
      rw [hsb.2 b (fun h : b = S => hb (by rw [h]; exact List.mem_cons_self))]; exact e
end
section
variable {prog : Program} {w : World} {A : Around} {E : Value → Shared → Prop} {s : Shared}
variable {prog : Program} {w : World} {A : Around} {E : Value → Shared → Prop} {s : Shared}
set_option maxHeartbeats 3200000 in
theorem call_set_listX {l : Addr} {items : Array Value} {xs : List Str} {Q : Value → Shared → Prop}
    (hh : A.handled = none) (hl : s.heap.IsList l items) (hi : PyProof.Rows.StrsAre items.toList xs) (hnd : xs.Nodup) (hn1 : xs.length < 4000)
    (h : ∀ (h' : Heap) (tk : Nat), h'.SetOf (PySem.strKind prog w) s.heap.objs.size (fun k' => (xs.take items.size).any (· == k')) items.size →
      (∀ b o, b < s.heap.objs.size → s.heap.get? b = some o → h'.get? b = some o) → Q (.ref s.heap.objs.size) { s with heap := h', toks := tk }) :
    wpAny (model prog w) A (call (.type "set") [.ref l]) Q E s := by
  obtain ⟨c, tl, hmro⟩ := PySem.F.called_set.mro
  have hmade := PySem.F.called_set.made
  have hsub := PySem.F.called_set.sub
  refine wpAny_call (codeAny_of_tree ?_)
  show wpAny _ _ (callAny (.type "set") _) _ _ _
  refine wpAny_pure ⟨Code.quiet_builtin _ (by decide +kernel), codeAny_builtin PySem.F.entry_type_call ?_⟩
  rw [Around.under_plain (weight_type_call_type "set" [.ref l] []) rfl]
  have h1 := PySem.F.called_set.notType
  have h2 := PySem.F.called_set.canCreate
  have hct := PySem.F.typeCall_set_1 (.ref l)
  repeat (any_goals (first | assumption | wp_step))

  refine codeAny_mono (code_set_new_1 (.ref l) (E := E) (Q₁ := fun obj s₁ => ∃ led : Bool, obj = .ref s.heap.objs.size ∧ s₁ = { s with heap := s.heap.push { cls := .type "set", dict := none, data := .set #[] 0 (.fresh 0 0 led) } }) fun led => ⟨led, rfl, rfl⟩) fun r s₁ hr => ?_
  cases r with
  | error e => exact hr
  | ok fl =>
    cases fl with
    | ret obj =>
      obtain ⟨led, rfl, rfl⟩ := hr
      have hS : (s.heap.push { cls := .type "set", dict := none, data := .set #[] 0 (.fresh 0 0 led) }).get? s.heap.objs.size = some { cls := .type "set", dict := none, data := .set #[] 0 (.fresh 0 0 led) } := Heap.get?_push_size _ rfl
      have hT : Shared.TypeIs { s with heap := s.heap.push { cls := .type "set", dict := none, data := .set #[] 0 (.fresh 0 0 led) } } (.ref s.heap.objs.size) "set" := ⟨_, hS, rfl⟩
      have hli := PySem.F.called_set.init.lookup
      have hbi := PySem.F.called_set.init.bind (.ref s.heap.objs.size)
      repeat (any_goals (first | assumption | wp_step))

      refine codeAny_mono (codeAny_call_builtin (R := wants (fun r s₂ => r = .none ∧ ∃ h' tk, s₂ = { s with heap := h', toks := tk } ∧
          h'.SetOf (PySem.strKind prog w) s.heap.objs.size (fun k' => (xs.take items.size).any (· == k')) items.size ∧
          (∀ b o, b < s.heap.objs.size → s.heap.get? b = some o → h'.get? b = some o)) E) PySem.F.called_set.init.plain PySem.F.entry_set_init (check_set_init_1 hT ?_)) fun r₂ s₂ hr₂ => ?_
      · obtain ⟨ol, hol, hcl, nl, hdl⟩ := hl
        obtain ⟨ocls, odict, odata, oslots⟩ := ol
        simp only at hcl hdl
        subst hcl; subst hdl
        have hol' : (s.heap.push { cls := .type "set", dict := none, data := .set #[] 0 (.fresh 0 0 led) }).get? l = some { cls := .type "list", dict := odict, data := .seq items nl, slots := oslots } := Heap.get?_push_of_some _ hol
        have hsls := PySem.F.sub_list_set
        have hslf := PySem.F.sub_list_frozenset
        have hne : (Value.type "list" == Value.type "dict") = false := by decide
        have hl1 : (s.heap.push { cls := .type "set", dict := none, data := .set #[] 0 (.fresh 0 0 led) }).IsList l items := ⟨_, hol', rfl, nl, rfl⟩
        unfold Builtin.«set.__init__» noKeywords Builtin.Frozenset.updateFrom
        generalize hPI : pyIter = PI
        wp_walk
        subst hPI

        refine wpAny_pyIter_list hl1 ?_
        refine wpAny_bind (wpAny_runValue ?_)
        have hlS : l < s.heap.objs.size := Heap.lt_size hol
        have hh3 : A.in1.in1.in1.handled = none := by simp [hh]
        have hneI : l ≠ (s.heap.push { cls := .type "set", dict := none, data := .set #[] 0 (.fresh 0 0 led) }).objs.size := by
          rw [Heap.size_push]; exact Nat.ne_of_lt (Nat.lt_succ_of_lt hlS)
        have hSf : s.heap.objs.size ∉ [(s.heap.push { cls := .type "set", dict := none, data := .set #[] 0 (.fresh 0 0 led) }).objs.size, l] := by
          rw [Heap.size_push]; simp only [List.mem_cons, List.mem_singleton, List.not_mem_nil, or_false, not_or]
          exact ⟨Nat.ne_of_lt (Nat.lt_succ_self _), Nat.ne_of_gt hlS⟩
        have hsz : xs.length = items.size := by rw [← StrsAre.len_eq hi, Array.length_toList]
        have hval : ∀ (i : Nat) (v : Value), items[i]? = some v → ∃ t, v = .str (xs.getD i Str.empty) t := fun i v hv => SS.strs_at hi i v (by rw [Array.getElem?_toList]; exact hv)
        refine loopTx ((Walks.list hh3 _ l hneI items).toS) s.heap.objs.size
          hSf xs hsz hnd (by rw [← hsz]; exact hn1) hval (items.size - 0) 0 _ (by omega) (Nat.zero_le _)
          ⟨⟨_, Heap.get?_push_size _ rfl, rfl, rfl⟩, (hl1.push _)⟩ ?hS0 ?hR
        case hS0 =>
          have hget : ((s.heap.push { cls := .type "set", dict := none, data := .set #[] 0 (.fresh 0 0 led) }).push { cls := .type "list_iterator", data := .fields #[.ref l, .int 0 0] }).get? s.heap.objs.size
              = some { cls := .type "set", dict := none, data := .set #[] 0 (.fresh 0 0 led) } := Heap.get?_push_of_some _ hS
          exact PyProof.Rows.SetOf_congr ((PyProof.Rows.setObjOf_fresh (knd := PySem.strKind prog w) led).setOf hget (by unfold scanBound; omega)) (fun _ => rfl) rfl
        case hR =>
          intro s' hm hS'
          obtain ⟨h', g', d', tk', os'⟩ := s'
          have eg : g' = s.gens := hm.gens
          have ed : d' = s.drawn := hm.drawn
          have eo : os' = s.os := hm.os
          subst eg; subst ed; subst eo
          show wpAny _ _ _ _ _ _
          refine wpAny_pure ?_
          show wpAny _ _ (ret Value.none) _ _ _
          refine wpAny_pure ⟨rfl, h', tk', rfl, hS', fun b o hb e => ?_⟩
          have hb1 : b ≠ s.heap.objs.size := Nat.ne_of_lt hb
          have hb2 : b ≠ (s.heap.push { cls := .type "set", dict := none, data := .set #[] 0 (.fresh 0 0 led) }).objs.size := by
            rw [Heap.size_push]; exact Nat.ne_of_lt (Nat.lt_succ_of_lt hb)
          exact hm.heap b o (by simp only [List.mem_cons, List.mem_singleton, List.not_mem_nil, or_false, not_or]; exact ⟨hb1, hb2⟩) (Heap.get?_push_of_some _ (Heap.get?_push_of_some _ e))

      · cases r₂ with
        | error e => exact hr₂
        | ok fl₂ =>
          cases fl₂ with
          | ret r =>
            obtain ⟨rfl, h', tk, rfl, hS', hk'⟩ := hr₂
            repeat (any_goals (first | assumption | wp_step))
            exact h _ _ hS' hk'
          | _ => exact hr₂.elim
    | _ => exact hr.elim

variable {prog : Program} {w : World} {A : Around} {E : Value → Shared → Prop} {s : Shared}
set_option maxHeartbeats 3200000 in
theorem call_set_tupleX {l : Addr} {items : Array Value} {xs : List Str} {Q : Value → Shared → Prop}
    (hh : A.handled = none) (hl : s.heap.IsTuple l items) (hi : PyProof.Rows.StrsAre items.toList xs) (hnd : xs.Nodup) (hn1 : xs.length < 4000)
    (h : ∀ (h' : Heap) (tk : Nat), h'.SetOf (PySem.strKind prog w) s.heap.objs.size (fun k' => (xs.take items.size).any (· == k')) items.size →
      (∀ b o, b < s.heap.objs.size → s.heap.get? b = some o → h'.get? b = some o) → Q (.ref s.heap.objs.size) { s with heap := h', toks := tk }) :
    wpAny (model prog w) A (call (.type "set") [.ref l]) Q E s := by
  obtain ⟨c, tl, hmro⟩ := PySem.F.called_set.mro
  have hmade := PySem.F.called_set.made
  have hsub := PySem.F.called_set.sub
  refine wpAny_call (codeAny_of_tree ?_)
  show wpAny _ _ (callAny (.type "set") _) _ _ _
  refine wpAny_pure ⟨Code.quiet_builtin _ (by decide +kernel), codeAny_builtin PySem.F.entry_type_call ?_⟩
  rw [Around.under_plain (weight_type_call_type "set" [.ref l] []) rfl]
  have h1 := PySem.F.called_set.notType
  have h2 := PySem.F.called_set.canCreate
  have hct := PySem.F.typeCall_set_1 (.ref l)
  repeat (any_goals (first | assumption | wp_step))

  refine codeAny_mono (code_set_new_1 (.ref l) (E := E) (Q₁ := fun obj s₁ => ∃ led : Bool, obj = .ref s.heap.objs.size ∧ s₁ = { s with heap := s.heap.push { cls := .type "set", dict := none, data := .set #[] 0 (.fresh 0 0 led) } }) fun led => ⟨led, rfl, rfl⟩) fun r s₁ hr => ?_
  cases r with
  | error e => exact hr
  | ok fl =>
    cases fl with
    | ret obj =>
      obtain ⟨led, rfl, rfl⟩ := hr
      have hS : (s.heap.push { cls := .type "set", dict := none, data := .set #[] 0 (.fresh 0 0 led) }).get? s.heap.objs.size = some { cls := .type "set", dict := none, data := .set #[] 0 (.fresh 0 0 led) } := Heap.get?_push_size _ rfl
      have hT : Shared.TypeIs { s with heap := s.heap.push { cls := .type "set", dict := none, data := .set #[] 0 (.fresh 0 0 led) } } (.ref s.heap.objs.size) "set" := ⟨_, hS, rfl⟩
      have hli := PySem.F.called_set.init.lookup
      have hbi := PySem.F.called_set.init.bind (.ref s.heap.objs.size)
      repeat (any_goals (first | assumption | wp_step))

      refine codeAny_mono (codeAny_call_builtin (R := wants (fun r s₂ => r = .none ∧ ∃ h' tk, s₂ = { s with heap := h', toks := tk } ∧
          h'.SetOf (PySem.strKind prog w) s.heap.objs.size (fun k' => (xs.take items.size).any (· == k')) items.size ∧
          (∀ b o, b < s.heap.objs.size → s.heap.get? b = some o → h'.get? b = some o)) E) PySem.F.called_set.init.plain PySem.F.entry_set_init (check_set_init_1 hT ?_)) fun r₂ s₂ hr₂ => ?_
      · obtain ⟨ol, hol, hcl, nl, hdl⟩ := hl
        obtain ⟨ocls, odict, odata, oslots⟩ := ol
        simp only at hcl hdl
        subst hcl; subst hdl
        have hol' : (s.heap.push { cls := .type "set", dict := none, data := .set #[] 0 (.fresh 0 0 led) }).get? l = some { cls := .type "tuple", dict := odict, data := .seq items nl, slots := oslots } := Heap.get?_push_of_some _ hol
        have hsls := PySem.F.sub_tuple_set
        have hslf := PySem.F.sub_tuple_frozenset
        have hne : (Value.type "tuple" == Value.type "dict") = false := by decide
        have hl1 : (s.heap.push { cls := .type "set", dict := none, data := .set #[] 0 (.fresh 0 0 led) }).IsTuple l items := ⟨_, hol', rfl, nl, rfl⟩
        unfold Builtin.«set.__init__» noKeywords Builtin.Frozenset.updateFrom
        generalize hPI : pyIter = PI
        wp_walk
        subst hPI

        refine wpAny_pyIter_tuple hl1 ?_
        refine wpAny_bind (wpAny_runValue ?_)
        have hlS : l < s.heap.objs.size := Heap.lt_size hol
        have hh3 : A.in1.in1.in1.handled = none := by simp [hh]
        have hneI : l ≠ (s.heap.push { cls := .type "set", dict := none, data := .set #[] 0 (.fresh 0 0 led) }).objs.size := by
          rw [Heap.size_push]; exact Nat.ne_of_lt (Nat.lt_succ_of_lt hlS)
        have hSf : s.heap.objs.size ∉ [(s.heap.push { cls := .type "set", dict := none, data := .set #[] 0 (.fresh 0 0 led) }).objs.size, l] := by
          rw [Heap.size_push]; simp only [List.mem_cons, List.mem_singleton, List.not_mem_nil, or_false, not_or]
          exact ⟨Nat.ne_of_lt (Nat.lt_succ_self _), Nat.ne_of_gt hlS⟩
        have hsz : xs.length = items.size := by rw [← StrsAre.len_eq hi, Array.length_toList]
        have hval : ∀ (i : Nat) (v : Value), items[i]? = some v → ∃ t, v = .str (xs.getD i Str.empty) t := fun i v hv => SS.strs_at hi i v (by rw [Array.getElem?_toList]; exact hv)
        refine loopTx ((Walks.tuple hh3 _ l hneI items).toS) s.heap.objs.size
          hSf xs hsz hnd (by rw [← hsz]; exact hn1) hval (items.size - 0) 0 _ (by omega) (Nat.zero_le _)
          ⟨⟨_, Heap.get?_push_size _ rfl, rfl, rfl⟩, (hl1.push _)⟩ ?hS0 ?hR
        case hS0 =>
          have hget : ((s.heap.push { cls := .type "set", dict := none, data := .set #[] 0 (.fresh 0 0 led) }).push { cls := .type "tuple_iterator", data := .fields #[.ref l, .int 0 0] }).get? s.heap.objs.size
              = some { cls := .type "set", dict := none, data := .set #[] 0 (.fresh 0 0 led) } := Heap.get?_push_of_some _ hS
          exact PyProof.Rows.SetOf_congr ((PyProof.Rows.setObjOf_fresh (knd := PySem.strKind prog w) led).setOf hget (by unfold scanBound; omega)) (fun _ => rfl) rfl
        case hR =>
          intro s' hm hS'
          obtain ⟨h', g', d', tk', os'⟩ := s'
          have eg : g' = s.gens := hm.gens
          have ed : d' = s.drawn := hm.drawn
          have eo : os' = s.os := hm.os
          subst eg; subst ed; subst eo
          show wpAny _ _ _ _ _ _
          refine wpAny_pure ?_
          show wpAny _ _ (ret Value.none) _ _ _
          refine wpAny_pure ⟨rfl, h', tk', rfl, hS', fun b o hb e => ?_⟩
          have hb1 : b ≠ s.heap.objs.size := Nat.ne_of_lt hb
          have hb2 : b ≠ (s.heap.push { cls := .type "set", dict := none, data := .set #[] 0 (.fresh 0 0 led) }).objs.size := by
            rw [Heap.size_push]; exact Nat.ne_of_lt (Nat.lt_succ_of_lt hb)
          exact hm.heap b o (by simp only [List.mem_cons, List.mem_singleton, List.not_mem_nil, or_false, not_or]; exact ⟨hb1, hb2⟩) (Heap.get?_push_of_some _ (Heap.get?_push_of_some _ e))

      · cases r₂ with
        | error e => exact hr₂
        | ok fl₂ =>
          cases fl₂ with
          | ret r =>
            obtain ⟨rfl, h', tk, rfl, hS', hk'⟩ := hr₂
            repeat (any_goals (first | assumption | wp_step))
            exact h _ _ hS' hk'
          | _ => exact hr₂.elim
    | _ => exact hr.elim

end
end Ev
namespace Ev
open PySem L2 PySem.Spec PyProof.Rows
def txtsOf : List SV → Option (List Str)
  | [] => some []
  | .str x :: r => match txtsOf r with
    | some xs => some (x :: xs)
    | none => none
  | _ :: _ => none
def nodupS : List Str → Bool
  | [] => true
  | x :: r => !(r.any (· == x)) && nodupS r
theorem nodupS_ok : ∀ {xs : List Str}, nodupS xs = true → xs.Nodup
  | [], _ => List.nodup_nil
  | x :: r, h => by
    have h' := Bool.and_eq_true_iff.mp h
    refine List.nodup_cons.mpr ⟨fun m => ?_, nodupS_ok h'.2⟩
    have q : (r.any (· == x)) = true := List.any_eq_true.mpr ⟨x, m, beq_self_eq_true x⟩
    rw [q] at h'
    exact absurd h'.1 (by simp)
def lenSetP (a : SV) (h : VH) : EvR := match seqOf h a with
  | some xs => (match txtsOf xs with
    | some ys => (match nodupS ys && Nat.ble ys.length 3000 with
      | true => some (.int (ys.length : Nat), h)
      | false => none)
    | none => none)
  | none => none
section
variable {X : Cx} {C : Bd} {a : Expr} {fa : EF}
theorem txtsOf_ok {K : PySem.W.Frag} {ρ : List Addr} {H : Hp} : ∀ {xs : List SV} {vs : List V} {ys : List Str}, txtsOf xs = some ys → VRs K ρ H xs vs → vs = ys.map V.str
  | [], _, _, e, r => by cases e; cases r; rfl
  | x :: xs, _, _, e, r => by
    unfold txtsOf at e
    split at e
    · rename_i heq
      cases heq
    · rename_i x' r' heq
      cases heq
      split at e
      · rename_i zs ez
        cases e
        obtain _ | ⟨ra, rs⟩ := r
        cases ra
        rw [txtsOf_ok ez rs]
        rfl
      · cases e
    · cases e
def rLenSet (K : PySem.W.Frag) : V → Hp → VK → Prop := fun x H1 Q => ∃ l, ∃ xs : List Str, x = .ref l ∧ (SqL K H1 l (xs.map V.str) ∨ SqT K H1 l (xs.map V.str)) ∧ xs.Nodup ∧ xs.length ≤ 3000 ∧ Q (.int (xs.length : Nat)) H1
theorem pe_lenSetX {ta : TE} {p p2 q pos : Pos} (hc : X.calm = true) (hg : Gl X "len") (hm : X.mg "len" = none) (hg2 : Gl X "set") (hm2 : X.mg "set" = none) (ha : PE X a ta)
    (na : starEach [a] X.env = (false, eval a X.env) :: starEach [] X.env := by rfl) : PE X (.Call (.Name "len" p) [.Call (.Name "set" p2) [a] [] q] [] pos) (tUn (rLenSet X.K) ta) := by
  refine ⟨fun pins s σ H Q I h => ?_⟩
  refine Call_ (ld_blt I hg hm boot_len ?_)
  refine PyProof.Rows.callWith_builtin1 (PyProof.Rows.args_cons ?_ rfl) rfl rfl
  refine Call_ (ld_blt I hg2 hm2 boot_set ?_)
  refine PyProof.Rows.callWith_type1 (PyProof.Rows.args_cons (thn (ha.run pins s σ H _ I h) fun v s1 ⟨x, H1, I1, r1, q1⟩ => PyProof.Rows.args_nil ?_) na) na rfl
  obtain ⟨l, xs, rfl, hq, hnd, h1, q1⟩ := q1
  cases r1
  have fin : ∀ (its : List Value), Vals (xs.map V.str) its → ∀ (h' : Heap) (tk : Nat), h'.SetOf (PySem.strKind X.prog X.w) s1.heap.objs.size (fun k' => (xs.take its.toArray.size).any (· == k')) its.toArray.size →
      (∀ b o, b < s1.heap.objs.size → s1.heap.get? b = some o → h'.get? b = some o) →
      wpAny (model X.prog X.w) X.A (spliced (backTo pos (starEach [] X.env))) (fun vs s₂ => wpAny (model X.prog X.w) X.A (call (.builtin "len") (Value.ref s1.heap.objs.size :: vs)) (EP X pins σ Q) X.xe s₂) X.xe { s1 with heap := h', toks := tk } := fun its r h' tk hS hk => by
    refine PyProof.Rows.args_nil ?_
    have hl : its.toArray.size = xs.length := by rw [List.size_toArray, ← r.length, List.length_map]
    rw [hl] at hS
    obtain ⟨o, es, ep, t, ho, hex, hd, _, _, _, hf, hn⟩ := hS
    have I2 : Inv X pins σ H1 { s1 with heap := h', toks := tk } := I1.kept fun b o e => hk b o (Heap.lt_size e) e
    refine call_len_set ho hex hd hf (by rw [hn] <;> omega) ⟨.int xs.length, H1, I2.tok _, ⟨_, by rw [hn]⟩, q1⟩
  rcases hq with hq | hq
  · obtain ⟨its, r, pl, hz⟩ := I1.list hq
    exact call_set_listX (I1.ok.hd hc) pl.isList (by simpa using strsAre_of r) hnd (by omega) fun h' tk hS hk => fin its r h' tk hS hk
  · obtain ⟨its, r, pl, hz⟩ := I1.tuple hq
    exact call_set_tupleX (I1.ok.hd hc) pl (by simpa using strsAre_of r) hnd (by omega) fun h' tk hS hk => fin its r h' tk hS hk
theorem lenSetP_ok : Pr1 C X.prog X.w X.K (rLenSet X.K) lenSetP := by
  intro ρ h H a a' Q S ra k
  obtain ⟨v, h', e, _⟩ := id k
  unfold lenSetP at e
  split at e
  · rename_i xs es
    split at e
    · rename_i ys ey
      split at e
      · rename_i hc
        cases e
        obtain ⟨p, vs, rfl, hs, rs⟩ := seqOf_ok S ra es
        have ev := txtsOf_ok ey rs
        subst ev
        have hc' := Bool.and_eq_true_iff.mp hc
        refine ⟨p, ys, rfl, hs, nodupS_ok hc'.1, Nat.le_of_ble_eq_true hc'.2, k.of ?_ .refl S (.int _)⟩
        unfold lenSetP
        rw [es]
        simp only []
        rw [ey]
        simp only []
        rw [hc]
      · cases e
    · cases e
  · cases e
theorem xLenSet {p p2 p3 pos : Pos} (hc : X.calm = true) (h1 : X.mg "len" = none) (h2 : X.mg "set" = none) (ha : GE C X a fa) (hg : Gl X "len" := by rfl) (hg2 : Gl X "set" := by rfl) (na : starEach [a] X.env = (false, eval a X.env) :: starEach [] X.env := by rfl) :
    GE C X (.Call (.Name "len" p) [.Call (.Name "set" p2) [a] [] p3] [] pos) (evUn lenSetP fa) := PE.imp (pe_lenSetX hc hg h1 hg2 h2 ha na) fun _ _ _ => tUn_ev lenSetP_ok
end
end Ev

namespace Ev
open PySem L2 PySem.Spec PyProof.Rows PySem.Calls NdefX LamX

/-! ## sorted(xs, key=lambda x: body) -/
def locAt (l : Loc) (j : Nat) : Option SV := match l[j]? with
  | some o => o
  | none => none
def lamF (js : List Nat) (fe : EF) (l : Loc) : List SV → VH → EvR
  | [y], h => fe (some y :: js.map (locAt l)) h
  | _, _ => none
abbrev CF := Loc → VH → Option (List SV × VH)
def evSortL (js : List Nat) (fe : EF) (fc : CF) : EF := fun l h => match fc l h with
  | some (xs, h1) => (match mapF (lamF js fe l) xs h1 with
    | some (ks, h2) => (match toDs ks with
      | some ds => sortSV xs ds h2
      | none => none)
    | none => none)
  | none => none
def tCol (C : Bd) (X : Cx) (fc : CF) : TA := fun σ H Q => ∃ ρ l h, Sim C X.prog X.w X.K ρ h H ∧ LR X.K ρ H l σ ∧ ∃ xs h', fc l h = some (xs, h') ∧
  ∀ ρ' H' v ws, Ext X.K ρ H ρ' H' → Sim C X.prog X.w X.K ρ' h' H' → ColV X v H' ws → VRs X.K ρ' H' xs ws → Q [v] H'
abbrev GC (C : Bd) (X : Cx) (es : List Expr) (fc : CF) : Prop := PA X es (tCol C X fc)
def fcSeq (fs : AF) : CF := fun l h => match fs l h with
  | some ([a], h1) => (match colOf h1 a with
    | some xs => some (xs, h1)
    | none => none)
  | _ => none
def fcRange (fa : EF) : CF := fun l h => match fa l h with
  | some (.int (.ofNat n), h1) => (match Nat.ble n 4000 with
    | true => some ((List.range n).map fun i => SV.int (Int.ofNat i), h1)
    | false => none)
  | _ => none
/-- the lambda's function -/
abbrev lamN (X : Cx) (params : Arguments) (scope : Scope) (c' : Addr) : NF := ⟨"<lambda>", X.env.qual ++ "<lambda>", params, [], scope, cloFrom X.env.cells scope.names [], c'⟩
/-- the context of its body -/
abbrev lamX (X : Cx) (N : List Str) (params : Arguments) (scope : Scope) (f c' : Addr) (A : Around) (s : Shared) (H : Hp) : Cx := ncx CX0 X.prog X.w X.K X.mg X.base N (lamN X params scope c') f A X.stack s H E0
section
variable {C : Bd} {X : Cx} {k : Nat} {e body : Expr} {es : List Expr} {fs : AF} {fe : EF} {js : List Nat} {p lpos kpos pos : Pos} {params : Arguments} {scope : Scope} {N fr : List Str} {x : Str} {c P : Addr}
theorem locAt_ok {ρ : List Addr} {H : Hp} {l : Loc} {σ : L2.St} (L : LR X.K ρ H l σ) {j : Nat} {y : SV} (e : locAt l j = some y) : ∃ v, slotAt σ j = some v ∧ VR X.K ρ H y v := by
  unfold locAt at e
  cases q : l[j]? with
  | none => rw [q] at e; cases e
  | some o =>
    rw [q] at e
    have e : o = some y := e
    subst e
    obtain ⟨v, h1, h2⟩ := L.2 j y q
    exact ⟨v, slotAt_of h1, h2⟩
theorem LR.lam {ρ : List Addr} {H : Hp} {l : Loc} {σ : L2.St} {y : SV} {v : V} (L : LR X.K ρ H l σ) (r : VR X.K ρ H y v) : LR X.K ρ H (some y :: js.map (locAt l)) (some v :: js.map (slotAt σ)) := by
  refine ⟨by simp, fun i z e => ?_⟩
  cases i with
  | zero =>
    have e : some (some y) = some (some z) := e
    cases e
    exact ⟨v, rfl, r⟩
  | succ i =>
    rw [List.getElem?_cons_succ, List.getElem?_map] at e
    rw [List.getElem?_cons_succ, List.getElem?_map]
    cases q : js[i]? with
    | none => rw [q] at e; cases e
    | some j =>
      rw [q] at e
      have e : locAt l j = some z := Option.some.inj e
      obtain ⟨v2, h1, h2⟩ := locAt_ok L e
      exact ⟨v2, congrArg some h1, h2⟩
/-- the lambda's call -/
theorem runL {pl : List (Addr × Obj)} {σ : L2.St} {H : Hp} {s : Shared} {f c' : Addr} {pm ctv u : Value} {v : V} {y : SV} {Q : VK} {A : Around} {ρ : List Addr} {h : VH} {l : Loc} (hA : A.frames = some X.stack) (hr : Room (k + 1) A) (S : NScope N [x] fr scope) (hN : N.length = 1 + fr.length) (hjl : js.length = fr.length)
    (cp : Caps X (cloFrom X.env.cells scope.names []) fr js) (hbind : ∀ (q : Str) (cl : List (Str × Addr)) (pm cv ctv u : Value), bindArgs (PySem.W.kla_fn "<lambda>" q params body scope cl pm cv ctv) ⟨[u], []⟩ = pure ([x].zip [u]))
    (hb : ∀ (f c' : Addr) (A : Around) (s : Shared) (H : Hp), Room k (A.deeper (envF (lamN X params scope c') f s.heap.objs.size)) → GE C (lamX X N params scope f c' A s H) body fe)
    (I : Inv X pl σ H s) (of : s.heap.get? f = some (PySem.W.kla_obj "<lambda>" (X.env.qual ++ "<lambda>") params body scope (cloFrom X.env.cells scope.names []) pm c' ctv)) (oc : H c' = some (CodeO c' (X.env.qual ++ "<lambda>")))
    (Sm : Sim C X.prog X.w X.K ρ h H) (L : LR X.K ρ H l σ) (ry : VR X.K ρ H y v) (ru : RelV v u) (kk : tK C X.prog X.w X.K (lamF js fe l [y] h) ρ H Q) :
    wpAny (model X.prog X.w) A (call (.ref f) [u]) (EP X pl σ Q) (fun _ _ => False) s := by
  obtain ⟨⟨co, vs, t, hoc, hdc, hvc⟩, _, _⟩ := I.hok c' _ oc
  have e0 : Env0 X.prog X.w X.K X.mg X.base A X.stack s H := ⟨hA, I.env0.mod, I.env0.bs, I.env0.bsz, I.env0.funs, I.env0.frf, I.env0.hok, I.env0.bare⟩
  have lim : s.heap.NoLimit := I.nolimit
  have Cl : CellsAt (lamN X params scope c').cl fr (js.map (slotAt σ)) s.heap H := cells_of I cp
  have rc : codeAny (model X.prog X.w) A (.call (.ref f) ⟨[u], []⟩) (CR CX0 X.stack X.prog X.w H s Q E0) s := by
    refine PySem.W.kla_callFunE hr.depth of rfl S.co S.gen rfl ⟨c', co, vs, t, rfl, hoc, hdc, hvc⟩ ?_
    rw [hbind]
    refine wpAny_pure (wpAny_newFunctionEnv S.nocell (fun ⟨n, _⟩ hy => S.par n (List.of_mem_zip hy).1) (fun h₁ hns hsb => ⟨lim.fresh _ hsb, ?_⟩) S.kind)
    show codeAny _ _ (.expr body (envF (lamN X params scope c') f s.heap.objs.size)) _ _
    have kp : ∀ b o, s.heap.get? b = some o → h₁.get? b = some o := fun b o e => hsb.extBut b o (Nat.ne_of_lt (Heap.lt_size e)) (Heap.get?_push_of_some _ e)
    have J : Inv (lamX X N params scope f c' A s H) [] (startF N [v] (js.map (slotAt σ))) H { s with heap := h₁, toks := s.toks + ([x].zip [u]).length } := inv_startN (F := lamN X params scope c') S hr.hd e0 rfl (.cons ru .nil) Cl hns kp
    have st : startF N [v] (js.map (slotAt σ)) = some v :: js.map (slotAt σ) := by
      unfold startF
      rw [hN, List.length_map, hjl]
      simp
    rw [st] at J
    refine PySem.W.kla_codeExpr (wpAny_mono ((hb f c' A s H (hr.deeper _)).run [] _ _ H Q J ⟨ρ, _, h, Sm, LR.lam L ry, kk⟩) (fun v s' hq => ?_) fun e s' hq => hq)
    obtain ⟨w', H', J', rv, q⟩ := hq
    exact ⟨w', H', J'.os, J'.bare, J'.base, J'.hok, rv, q⟩
  refine wpAny_call (codeAny_mono rc fun r s' hq => ?_)
  cases r with
  | error e => exact hq
  | ok fl =>
    cases fl with
    | ret u => exact I.after hq
    | next => exact False.elim hq
    | brk => exact False.elim hq
    | cont => exact False.elim hq
theorem Sim.ext {ρ : List Addr} {h : VH} {H H1 : Hp} (S : Sim C X.prog X.w X.K ρ h H) (e : ExtN H H1) (t : Tabs C.T H1) : Ext X.K ρ H ρ H1 ∧ Sim C X.prog X.w X.K ρ h H1 := by
  have E : Ext X.K ρ H ρ H1 := ⟨⟨[], by simp⟩, fun b o h1 n nt => ⟨e b o h1 nt, n⟩, fun p o u h1 => e p _ h1 fun ps z => by cases z⟩
  refine ⟨E, S.other E (fun a ha => ?_) t⟩
  obtain ⟨u, hu, n, _⟩ := S.live a ha
  rw [hu]
  exact e a u hu n
theorem rd_ext {H H1 : Hp} {a : Addr} {u : HO} (h : Rd H a u) (e : ExtN H H1) (n : ∀ ps, u ≠ .tbl ps := by exact fun _ z => by cases z) : Rd H1 a u := by
  rcases h with h | ⟨o, h⟩
  · exact .inl (e _ _ h n)
  · exact .inr ⟨o, e _ _ h fun _ z => by cases z⟩
theorem gcSeq (ha : GA C X (e :: es) fs) : GC C X (e :: es) (fcSeq fs) := PA.imp ha fun σ H Q q => by
  obtain ⟨ρ, l, h, S, L, xs, h', ev, k⟩ := q
  unfold fcSeq at ev
  split at ev
  · rename_i a h1 ea
    split at ev
    · rename_i ys ec
      cases ev
      refine ⟨ρ, l, h, S, L, _, _, ea, fun ρ1 H1 vs x1 S1 rs => ?_⟩
      obtain _ | ⟨ra, rt⟩ := rs
      cases rt
      obtain ⟨ws, hc, ru⟩ := colOf_ok S1 ra ec
      exact k ρ1 H1 _ ws x1 S1 hc ru
    · cases ev
  · cases ev
def rRange1 : List V → Hp → VK → Prop := fun vs H Q => ∃ n, vs = [V.int n] ∧ ∀ p, H p = none → Q (.ref p) (upd H p (.rng 0 n))
theorem cr_range1 : CallR X (.type "range") rRange1 := by
  intro pins s σ H vs us Q I r h
  obtain ⟨n, rfl, q⟩ := h
  obtain ⟨u1, rfl, t, rfl⟩ := vals1 r
  refine call_range_1 ⟨.ref s.heap.objs.size, upd H s.heap.objs.size (.rng 0 n), I.laid (t' := s.toks + 1 + 1) (fun b o e => Heap.get?_push_of_some _ e) (Nat.le_refl _) ?_, rfl, q _ (I.hok.fresh (Nat.le_refl _))⟩
  exact ⟨s.toks, t, s.toks + 1, Heap.get?_push_size _ rfl⟩
theorem gcRange {a : Expr} {fa : EF} {p1 p2 : Pos} (hm : X.mg "range" = none) (ha : GE C X a fa) (hg : Gl X "range" := by rfl) (he : starEach [a] X.env = (false, eval a X.env) :: starEach [] X.env := by rfl)
    (hs : starEach [.Call (.Name "range" p1) [a] [] p2] X.env = (false, eval (.Call (.Name "range" p1) [a] [] p2) X.env) :: starEach [] X.env := by rfl) : GC C X [.Call (.Name "range" p1) [a] [] p2] (fcRange fa) :=
  PA.imp (pa_cons (pe_callTy cr_range1 hg hm (by decide +kernel) (pa_cons ha pa_nil he) (by decide) (by decide) he (by rfl)) pa_nil hs) fun σ H Q q => by
    obtain ⟨ρ, l, h, S, L, xs, h', ev, k⟩ := q
    unfold fcRange at ev
    split at ev
    · rename_i n h1 ea
      split at ev
      · rename_i hn
        cases ev
        refine ⟨ρ, l, h, S, L, _, _, ea, fun ρ1 H1 v x1 S1 rv => ?_⟩
        cases rv
        refine ⟨_, rfl, fun p hp => ?_⟩
        have ec : ((List.range n).map fun i => SV.int (Int.ofNat i)) = ((List.range n).map Int.ofNat).map SV.int := by rw [List.map_map]; rfl
        refine k ρ1 _ (.ref p) _ (x1.trans (Ext.fresh hp)) (S1.fresh hp) (.inr ⟨p, [], _, .inr ⟨rfl, n, Nat.le_of_ble_eq_true hn, upd_same, rfl, rfl⟩⟩) ?_
        rw [ec]
        exact vrs_ints _
      · cases ev
    · cases ev
theorem qual_nox {CX : CXT} {P : Program} {w : World} {K : PySem.W.Frag} {mg : Str → Option Value} {base : Heap} {N : List Str} {qual : Str} {scope : Scope} {f : Addr} {cd : Value} {A : Around} {outer : List Env} {s : Shared} {H : Hp} {E : XK} :
    (cxOf CX P w K mg base N qual scope f cd A outer s H E).nox.env.qual = qual ++ Str.ofString ".<locals>." := rfl
theorem xSortL (hc : X.calm = true) (hr : Room (k + 2) X.A) (TB : TabB X.base X.mg c P) (hcode : X.env.code = .ref c) {qn : Str} (hq : X.env.qual = qn) (hmT : (P, qn ++ "<lambda>") ∈ C.T) (huT : ∀ q ∈ C.T, q.1 = P → q.2 = qn ++ "<lambda>") (hbS : X.mg "sorted" = none)
    (S : NScope N [x] fr scope) (hN : N.length = 1 + fr.length) (hjl : js.length = fr.length) (hnd : ndefB X.env.scope scope fr = true) (hjs : js.map (fun j => X.N[j]?) = fr.map some) (hdef : defaultsOf params X.env = ([], []))
    (hbind : ∀ (q : Str) (cl : List (Str × Addr)) (pm cv ctv u : Value), bindArgs (PySem.W.kla_fn "<lambda>" q params body scope cl pm cv ctv) ⟨[u], []⟩ = pure ([x].zip [u]))
    {fc : CF} (ha : GC C X (e :: es) fc)
    (hb : ∀ (f c' : Addr) (A : Around) (s : Shared) (H : Hp), Room k (A.deeper (envF (lamN X params scope c') f s.heap.objs.size)) → GE C (lamX X N params scope f c' A s H) body fe)
    (hg : Gl X "sorted" := by rfl)
    (he : backTo pos (starEach (e :: es) X.env) = (false, eval e X.env) :: backTo pos (starEach es X.env) := by rfl) (hpl : (backTo pos (starEach (e :: es) X.env)).any (·.1) = false := by rfl)
    (hall : (backToKw pos (keywordEach [⟨some "key", .Lambda params body scope lpos, kpos⟩] X.env)).all (·.1.isSome) = true := by rfl) (hnone : (backToKw pos (keywordEach [⟨some "key", .Lambda params body scope lpos, kpos⟩] X.env)).any (·.1.isNone) = false := by rfl) (hks : (backToKw pos (keywordEach [⟨some "key", .Lambda params body scope lpos, kpos⟩] X.env)).filterMap (·.1) = [Str.ofString "key"] := by rfl) :
    GE C X (.Call (.Name "sorted" p) (e :: es) [⟨some "key", .Lambda params body scope lpos, kpos⟩] pos) (evSortL js fe fc) := by
  subst hq
  refine ⟨fun pins s σ H Q I q => ?_⟩
  obtain ⟨ρ, l, h, Sm, L, v, h', ev, kq⟩ := q
  unfold evSortL at ev
  split at ev
  · rename_i xs h1 ea
    refine wpAny_Call_Name_kw (ld_blt (u := .builtin "sorted") I hg hbS (by decide +kernel) ?_ (by decide) (by decide))
    refine PyProof.Rows.callWith_kw (thn (ha.run pos pins s σ H (fun vs H1 => ∃ ρ1 v ws, vs = [v] ∧ Ext X.K ρ H ρ1 H1 ∧ Sim C X.prog X.w X.K ρ1 h1 H1 ∧ ColV X v H1 ws ∧ VRs X.K ρ1 H1 xs ws) I ⟨ρ, l, h, Sm, L, xs, h1, ea, fun ρ1 H1 v ws x1 S1 hc rs => ⟨ρ1, v, ws, rfl, x1, S1, hc, rs⟩⟩) fun us s1 ⟨vs, H1, I1, r1, ρ1, v1, ws, evs, x1, S1, hcv, rs⟩ => ?_) he hpl hall hnone
    have hf : ∀ y ∈ scope.names, y.2 = .free → ∃ c, X.env.cells.lookup y.1 = some c := fun y hy e => (ndef_free hnd y hy e).elim (fun z => I1.ok.has _ (.inl z)) fun z => I1.ok.has _ (.inr z)
    rw [hks]
    show wpAny _ _ (evalAll ((do let v ← eval (.Lambda params body scope lpos) X.env; standAt pos; pure v) :: [])) _ _ s1
    refine wpAny_evalAll_cons (wpAny_bind (lam_make2 I1 TB hcode hmT huT S1.tab hdef hf fun f c' pm ctv H2 s2 I2 eN T2 of hfn hfr hco => wpAny_bind (wpAny_standAt (wpAny_pure (wpAny_evalAll_nil ?_)))))
    obtain ⟨x2, S2⟩ := Sim.ext S1 eN T2
    have cp : Caps X (cloFrom X.env.cells scope.names []) fr js := Caps.made I2.ok (ndef_free hnd) (ndef_fr hnd) hjs
    have nL : f ≠ X.env.locals := fun z => by
      obtain ⟨m, ⟨o, es, ep, ho, hd, _⟩, _⟩ := I2.loc
      rw [← z, of] at ho
      cases ho
      cases hd
    have nF : f ∉ X.fs := fun z => by
      rcases I2.ok.stk with e | ⟨e, _⟩
      · exact hfr (by rw [e]; exact z)
      · refine hfr (by rw [e]; unfold frs; rw [List.filterMap_cons]; split; exact z; exact List.mem_cons_of_mem _ z)
    have I3 : Inv X (pins ++ [(f, PySem.W.kla_obj "<lambda>" (X.env.qual ++ "<lambda>") params body scope (cloFrom X.env.cells scope.names []) pm c' ctv)]) σ H2 s2 := I2.pins_of fun q hq => by
      rcases List.mem_append.mp hq with hq | hq
      · exact I2.pin q (List.mem_append_right _ hq)
      · obtain rfl := List.mem_singleton.mp hq
        exact ⟨of, hfn, nL, nF, fun v z => by cases z⟩
    subst evs
    obtain ⟨u, rfl, rx⟩ := vals1 r1
    have ru := rs.mono x2
    have hcv2 : ColV X v1 H2 ws := by
      rcases hcv with ⟨a, rfl, hs⟩ | ⟨a, kvs, ks, hs⟩
      · refine .inl ⟨a, rfl, ?_⟩
        rcases hs with (hs | hs) | (hs | hs)
        · exact .inl (.inl (rd_ext hs eN))
        · exact .inl (.inr hs)
        · exact .inr (.inl (rd_ext hs eN))
        · exact .inr (.inr hs)
      · refine .inr ⟨a, kvs, ks, ?_⟩
        rcases hs with ⟨h1, h2, h3⟩ | ⟨h1, n, h2, h3, h4⟩
        · exact .inl ⟨h1, rd_ext h2 eN, h3⟩
        · exact .inr ⟨h1, n, h2, eN _ _ h3 (fun ps z => by cases z), h4⟩
    have hun := hr.un
    refine wpAny_mono (sortF_inv (f := lamF js fe l) (Q := Q) I3 rx (I3.ok.hd hc) (by omega) (colV hc I3 hcv2) S2 ru (fun pl H3 s3 v3 uv Q3 ρ3 hh y rv J x3 S3 ry kk => ?_) ⟨v, h', ev, fun ρ4 H4 v4 x4 S4 r4 => kq ρ4 H4 v4 ((x1.trans x2).trans x4) S4 r4⟩) (fun u s' hq => ?_) fun _ _ hq => hq
    · have c3 : H3 c' = some (CodeO c' (X.env.qual ++ "<lambda>")) := (x3.keep c' _ hco (fun hm => by
        obtain ⟨o, ho, _, n⟩ := S2.live c' hm
        rw [hco] at ho
        exact n _ _ (Option.some.inj ho).symm) fun ps => codeO_ne ps).1
      have fp := J.pin (f, PySem.W.kla_obj "<lambda>" (X.env.qual ++ "<lambda>") params body scope (cloFrom X.env.cells scope.names []) pm c' ctv) (List.mem_append_right _ (List.mem_append_left _ (List.mem_append_right _ List.mem_cons_self)))
      exact runL (hA := J.ok.frames) (Room.in2 hr) S hN hjl cp hbind hb J fp.1 c3 S3 (((L.mono x1).mono x2).mono x3) ry rv kk
    · obtain ⟨v5, H5, I5, r5, q5⟩ := hq
      exact ⟨v5, H5, I5.unpinned, r5, q5⟩
  · cases ev
end

/-! ## a def whose code object has a table -/
structure DefC (K : PySem.W.Frag) (x qual : Str) (st : Stmt) (ps : List Str) (a c : Addr) : Prop where
  ex : ∃ (oc : Value) (od : Option Addr) (kV doc pm : Value) (an : Option Addr) (ct : Value) (osl : Array (Option Value)),
    K.lookup a = some ⟨oc, od, .func (PySem.W.fnOf x qual (defArgs st) (defBody st) (defScope st) .none kV doc pm an (.ref c) ct), osl⟩ ∧ PySem.W.codeIn K (.ref c) qual = true ∧ Binds K (PySem.W.fnOf x qual (defArgs st) (defBody st) (defScope st) .none kV doc pm an (.ref c) ct) ps []
  kp : PySem.W.keepIn K (.ref a) = true
theorem ok_defC {C : Bd} {P : Program} {w : World} {K : PySem.W.Frag} {mg : Str → Option Value} {base : Heap} {x qual : Str} {st : Stmt} {a c : Addr} {N ps : List Str} {k n m : Nat} {b : SF} (D : DefC K x qual st ps a c) (S : FnScope N ps (defScope st)) (hn : ps.length = n) (hN : N.length = n + m)
    (hb : ∀ (A : Around) (outer : List Env) (s : Shared) (H : Hp), Room k (A.deeper (envOfC qual (defScope st) s.heap.objs.size a (.ref c))) →
      GSs C (cxOf CX0 P w K mg base N qual (defScope st) a (.ref c) A outer s H E0).nox (defBody st) b) : OkF C P w K mg base (k + 1) a n (evFun n m b) := by
  obtain ⟨oc, od, kV, doc, pm, an, ct, osl, lk, hcd, hB⟩ := D.ex
  refine ⟨⟨_, ps, ?_, hB⟩, D.kp⟩
  refine fn_of lk hcd S (fun vs H Q E h => by rw [hn]; exact h.1) fun A outer s H vs Q E hr h => ?_
  obtain ⟨hl, ρ, vh, xs, Sm, rs, v, h', e, kk⟩ := h
  refine ⟨_, (hb A outer s H hr).nox, ?_⟩
  rw [start_eq hl hN]
  unfold evFun at e
  split at e
  · split at e
    · rename_i v1 h1 e1
      cases e
      exact ⟨ρ, _, vh, Sm, LR.start rs, .inr ⟨_, _, e1, fun ρ1 H1 v' x1 S1 r1 => kk ρ1 H1 v' x1 S1 r1⟩⟩
    · rename_i l1 h1 e1
      cases e
      exact ⟨ρ, _, vh, Sm, LR.start rs, .inl ⟨_, _, e1, fun ρ1 H1 σ' x1 S1 _ => kk ρ1 H1 .non x1 S1 .non⟩⟩
    · cases e
  · cases e
theorem _root_.L2.Room.u9 {k : Nat} {A : Around} (r : Room k A) : A.units + 9 < cLine := by have := r.un; omega
theorem _root_.L2.Room.u10 {k : Nat} {A : Around} (r : Room k A) : A.units + 10 < cLine := by have := r.un; omega
theorem _root_.L2.Room.u64 {k : Nat} {A : Around} (r : Room k A) : A.units + 64 < cLine := by have := r.un; omega
theorem _root_.L2.Room.u66 {k : Nat} {A : Around} (r : Room k A) : A.units + 66 < cLine := by have := r.un; omega
end Ev

namespace Ev
open PySem L2 PySem.Spec PyProof.Rows
structure Txt (K : PySem.W.Frag) (mg : Str → Option Value) (C : Bd) (base : Heap) where
  ad : String → Addr
  cl : Cls K C.c
  mkr : Mk K C.c (ad "K_init")
  g_Keeper : mg "Keeper" = some (.ref C.c)
  d_is_number : DefF K "is_number" "is_number" s_is_number ["thing"] (ad "is_number")
  d_rank : DefF K "rank" "rank" s_rank ["value"] (ad "rank")
  d_ranks : DefF K "ranks" "ranks" s_ranks ["values"] (ad "ranks")
  d_stands_ahead : DefF K "stands_ahead" "stands_ahead" s_stands_ahead ["one", "other"] (ad "stands_ahead")
  d_risen : DefF K "risen" "risen" s_risen ["values"] (ad "risen")
  d_places_of : DefF K "places_of" "places_of" s_places_of ["table", "names"] (ad "places_of")
  d_at_places : DefF K "at_places" "at_places" s_at_places ["row", "places"] (ad "at_places")
  d_parts_of : DefF K "parts_of" "parts_of" s_parts_of ["table", "names"] (ad "parts_of")
  d_kept : DefF K "kept" "kept" s_kept ["table", "names"] (ad "kept")
  d_numbers_by : DefF K "numbers_by" "numbers_by" s_numbers_by ["parts"] (ad "numbers_by")
  d_look_parted : DefF K "look_parted" "look_parted" s_look_parted ["table", "key", "names", "values"] (ad "look_parted")
  d_look_order : DefF K "look_order" "look_order" s_look_order ["order"] (ad "look_order")
  d_unlike_ones : DefF K "unlike_ones" "unlike_ones" s_unlike_ones ["some"] (ad "unlike_ones")
  d_heads_by : DefF K "heads_by" "heads_by" s_heads_by ["some", "order"] (ad "heads_by")
  d_look_doubles : DefF K "look_doubles" "look_doubles" s_look_doubles ["places"] (ad "look_doubles")
  d_wide_of : DefF K "wide_of" "wide_of" s_wide_of ["columns", "parts", "heads", "cells"] (ad "wide_of")
  d_folded : DefF K "folded" "folded" s_folded ["table", "key", "names", "values", "order"] (ad "folded")
  d_unfolded : DefF K "unfolded" "unfolded" s_unfolded ["wide"] (ad "unfolded")
  d_gaps : DefF K "gaps" "gaps" s_gaps ["wide"] (ad "gaps")
  d_sum_of : DefF K "sum_of" "sum_of" s_sum_of ["some"] (ad "sum_of")
  d_last_of : DefF K "last_of" "last_of" s_last_of ["some"] (ad "last_of")
  d_put_together : DefF K "put_together" "put_together" s_put_together ["some", "way"] (ad "put_together")
  d_look_ways : DefF K "look_ways" "look_ways" s_look_ways ["values", "ways"] (ad "look_ways")
  d_rows_at : DefF K "rows_at" "rows_at" s_rows_at ["table", "key", "names"] (ad "rows_at")
  d_cell_of : DefF K "cell_of" "cell_of" s_cell_of ["rows", "numbers", "ways"] (ad "cell_of")
  d_folded_by : DefF K "folded_by" "folded_by" s_folded_by ["table", "key", "names", "values", "ways", "order"] (ad "folded_by")
  d_look_unlike : DefF K "look_unlike" "look_unlike" s_look_unlike ["table", "names"] (ad "look_unlike")
  d_sources : DefF K "sources" "sources" s_sources ["table", "key", "names", "order"] (ad "sources")
  d_rolled : DefF K "rolled" "rolled" s_rolled ["table", "key", "names", "values", "ways", "order", "deep", "far"] (ad "rolled")
  d_cut_tuples : DefF K "cut_tuples" "cut_tuples" s_cut_tuples ["some", "many"] (ad "cut_tuples")
  d_cells_together : DefF K "cells_together" "cells_together" s_cells_together ["cells", "ways"] (ad "cells_together")
  d_look_ways2 : DefF K "look_ways" "look_ways" s_look_ways2 ["wide", "ways"] (ad "look_ways2")
  d_added : DefF K "added" "added" s_added ["wide", "ways", "deep", "far"] (ad "added")
  d_margins : DefF K "margins" "margins" s_margins ["wide", "ways"] (ad "margins")
  d_holds : DefF K "holds" "holds" s_holds ["value", "word", "other"] (ad "holds")
  d_look_columns : DefF K "look_columns" "look_columns" s_look_columns ["columns", "names"] (ad "look_columns")
  d_look_words : DefF K "look_words" "look_words" s_look_words ["conditions"] (ad "look_words")
  d_looked : DefF K "looked" "looked" s_looked ["columns", "row", "conditions"] (ad "looked")
  d_rows_where : DefF K "rows_where" "rows_where" s_rows_where ["table", "conditions"] (ad "rows_where")
  d_look_question : DefF K "look_question" "look_question" s_look_question ["table", "question"] (ad "look_question")
  d_each_once : DefF K "each_once" "each_once" s_each_once ["values"] (ad "each_once")
  d_answer : DefF K "answer" "answer" s_answer ["table", "question"] (ad "answer")
  d_answer_wide : DefF K "answer_wide" "answer_wide" s_answer_wide ["wide", "question"] (ad "answer_wide")
  d_K_init : DefF K "__init__" "Keeper.__init__" s_K_init ["self", "columns", "key", "names", "values", "ways", "order"] (ad "K_init")
  d_K_place_of : DefF K "place_of" "Keeper.place_of" s_K_place_of ["self", "row"] (ad "K_place_of")
  d_K_cell_of : DefF K "cell_of" "Keeper.cell_of" s_K_cell_of ["self", "numbers"] (ad "K_cell_of")
  d_K_found_anew : DefF K "found_anew" "Keeper.found_anew" s_K_found_anew ["self", "place"] (ad "K_found_anew")
  d_K_put_at : DefF K "put_at" "Keeper.put_at" s_K_put_at ["self", "number", "row"] (ad "K_put_at")
  d_K_taken : DefF K "taken" "Keeper.taken" s_K_taken ["self", "number"] (ad "K_taken")
  d_K_put_row : DefF K "put_row" "Keeper.put_row" s_K_put_row ["self", "row"] (ad "K_put_row")
  d_K_take_row : DefF K "take_row" "Keeper.take_row" s_K_take_row ["self", "number"] (ad "K_take_row")
  d_K_undo : DefF K "undo" "Keeper.undo" s_K_undo ["self"] (ad "K_undo")
  d_K_wide_now : DefF K "wide_now" "Keeper.wide_now" s_K_wide_now ["self"] (ad "K_wide_now")
  d_turned : DefF K "turned" "turned" s_turned ["wide", "key", "names"] (ad "turned")
  d_without : DefF K "without" "without" s_without ["names", "name"] (ad "without")
  d_to_key : DefF K "to_key" "to_key" s_to_key ["wide", "name"] (ad "to_key")
  d_told_list : DefF K "told_list" "told_list" s_told_list ["order"] (ad "told_list")
  d_places_in : DefC K "places_in" "places_in" s_places_in ["some", "order"] (ad "places_in") (ad "c_places_in")
  tb_places_in : LamX.TabB base mg (ad "c_places_in") (ad "P_places_in")
  t_places_in : (ad "P_places_in", (Str.ofString "places_in" ++ Str.ofString ".<locals>.") ++ Str.ofString "<lambda>") ∈ C.T
  u_places_in : ∀ q ∈ C.T, q.1 = ad "P_places_in" → q.2 = (Str.ofString "places_in" ++ Str.ofString ".<locals>.") ++ Str.ofString "<lambda>"
  d_at_places2 : DefF K "at_places" "at_places" s_at_places2 ["row", "places"] (ad "at_places2")
  d_heads_in : DefF K "heads_in" "heads_in" s_heads_in ["wide", "order"] (ad "heads_in")
  d_cell_rank : DefF K "cell_rank" "cell_rank" s_cell_rank ["cell", "place"] (ad "cell_rank")
  d_parts_by : DefC K "parts_by" "parts_by" s_parts_by ["wide", "head", "name"] (ad "parts_by") (ad "c_parts_by")
  tb_parts_by : LamX.TabB base mg (ad "c_parts_by") (ad "P_parts_by")
  t_parts_by : (ad "P_parts_by", (Str.ofString "parts_by" ++ Str.ofString ".<locals>.") ++ Str.ofString "<lambda>") ∈ C.T
  u_parts_by : ∀ q ∈ C.T, q.1 = ad "P_parts_by" → q.2 = (Str.ofString "parts_by" ++ Str.ofString ".<locals>.") ++ Str.ofString "<lambda>"
  d_value_text : DefF K "value_text" "value_text" s_value_text ["value"] (ad "value_text")
  d_words_text : DefF K "words_text" "words_text" s_words_text ["word", "values"] (ad "words_text")
  d_cell_text : DefF K "cell_text" "cell_text" s_cell_text ["cell"] (ad "cell_text")
  d_wide_text : DefF K "wide_text" "wide_text" s_wide_text ["wide"] (ad "wide_text")
  d__law_same : DefF K "_law_same" "_law_same" s__law_same ["_law_found", "_law_due"] (ad "_law_same")
  d__law_sales : DefF K "_law_sales" "_law_sales" s__law_sales [] (ad "_law_sales")
  d__law_by_town : DefF K "_law_by_town" "_law_by_town" s__law_by_town [] (ad "_law_by_town")
  d__law_few : DefF K "_law_few" "_law_few" s__law_few [] (ad "_law_few")
  d__law_first : DefF K "_law_first" "_law_first" s__law_first ["_law_which"] (ad "_law_first")
  d__law_second : DefF K "_law_second" "_law_second" s__law_second ["_law_which"] (ad "_law_second")
  d__law_kept_right : DefF K "_law_kept_right" "_law_kept_right" s__law_kept_right ["_law_take_here"] (ad "_law_kept_right")
  d__law_taken : DefF K "_law_taken" "_law_taken" s__law_taken ["_law_take_here"] (ad "_law_taken")
  g_at_places_tables : mg "at_places_tables" = some (.ref (ad "at_places"))
  g_at_places_orders : mg "at_places_orders" = some (.ref (ad "at_places2"))
  g_look_ways_foldby : mg "look_ways_foldby" = some (.ref (ad "look_ways"))
  g_look_ways_along : mg "look_ways_along" = some (.ref (ad "look_ways2"))
  g_at_places : mg "at_places" = some (.ref (ad "at_places2"))
  g_look_ways : mg "look_ways" = some (.ref (ad "look_ways2"))
  g_is_number : mg "is_number" = some (.ref (ad "is_number"))
  g_rank : mg "rank" = some (.ref (ad "rank"))
  g_ranks : mg "ranks" = some (.ref (ad "ranks"))
  g_stands_ahead : mg "stands_ahead" = some (.ref (ad "stands_ahead"))
  g_risen : mg "risen" = some (.ref (ad "risen"))
  g_places_of : mg "places_of" = some (.ref (ad "places_of"))
  g_parts_of : mg "parts_of" = some (.ref (ad "parts_of"))
  g_kept : mg "kept" = some (.ref (ad "kept"))
  g_numbers_by : mg "numbers_by" = some (.ref (ad "numbers_by"))
  g_look_parted : mg "look_parted" = some (.ref (ad "look_parted"))
  g_look_order : mg "look_order" = some (.ref (ad "look_order"))
  g_unlike_ones : mg "unlike_ones" = some (.ref (ad "unlike_ones"))
  g_heads_by : mg "heads_by" = some (.ref (ad "heads_by"))
  g_look_doubles : mg "look_doubles" = some (.ref (ad "look_doubles"))
  g_wide_of : mg "wide_of" = some (.ref (ad "wide_of"))
  g_folded : mg "folded" = some (.ref (ad "folded"))
  g_unfolded : mg "unfolded" = some (.ref (ad "unfolded"))
  g_gaps : mg "gaps" = some (.ref (ad "gaps"))
  g_sum_of : mg "sum_of" = some (.ref (ad "sum_of"))
  g_last_of : mg "last_of" = some (.ref (ad "last_of"))
  g_put_together : mg "put_together" = some (.ref (ad "put_together"))
  g_rows_at : mg "rows_at" = some (.ref (ad "rows_at"))
  g_cell_of : mg "cell_of" = some (.ref (ad "cell_of"))
  g_folded_by : mg "folded_by" = some (.ref (ad "folded_by"))
  g_look_unlike : mg "look_unlike" = some (.ref (ad "look_unlike"))
  g_sources : mg "sources" = some (.ref (ad "sources"))
  g_rolled : mg "rolled" = some (.ref (ad "rolled"))
  g_cut_tuples : mg "cut_tuples" = some (.ref (ad "cut_tuples"))
  g_cells_together : mg "cells_together" = some (.ref (ad "cells_together"))
  g_added : mg "added" = some (.ref (ad "added"))
  g_margins : mg "margins" = some (.ref (ad "margins"))
  g_holds : mg "holds" = some (.ref (ad "holds"))
  g_look_columns : mg "look_columns" = some (.ref (ad "look_columns"))
  g_look_words : mg "look_words" = some (.ref (ad "look_words"))
  g_looked : mg "looked" = some (.ref (ad "looked"))
  g_rows_where : mg "rows_where" = some (.ref (ad "rows_where"))
  g_look_question : mg "look_question" = some (.ref (ad "look_question"))
  g_each_once : mg "each_once" = some (.ref (ad "each_once"))
  g_answer : mg "answer" = some (.ref (ad "answer"))
  g_answer_wide : mg "answer_wide" = some (.ref (ad "answer_wide"))
  g_turned : mg "turned" = some (.ref (ad "turned"))
  g_without : mg "without" = some (.ref (ad "without"))
  g_to_key : mg "to_key" = some (.ref (ad "to_key"))
  g_told_list : mg "told_list" = some (.ref (ad "told_list"))
  g_places_in : mg "places_in" = some (.ref (ad "places_in"))
  g_heads_in : mg "heads_in" = some (.ref (ad "heads_in"))
  g_cell_rank : mg "cell_rank" = some (.ref (ad "cell_rank"))
  g_parts_by : mg "parts_by" = some (.ref (ad "parts_by"))
  g_value_text : mg "value_text" = some (.ref (ad "value_text"))
  g_words_text : mg "words_text" = some (.ref (ad "words_text"))
  g_cell_text : mg "cell_text" = some (.ref (ad "cell_text"))
  g_wide_text : mg "wide_text" = some (.ref (ad "wide_text"))
  g__law_same : mg "_law_same" = some (.ref (ad "_law_same"))
  g__law_sales : mg "_law_sales" = some (.ref (ad "_law_sales"))
  g__law_by_town : mg "_law_by_town" = some (.ref (ad "_law_by_town"))
  g__law_few : mg "_law_few" = some (.ref (ad "_law_few"))
  g__law_first : mg "_law_first" = some (.ref (ad "_law_first"))
  g__law_second : mg "_law_second" = some (.ref (ad "_law_second"))
  g__law_kept_right : mg "_law_kept_right" = some (.ref (ad "_law_kept_right"))
  g__law_taken : mg "_law_taken" = some (.ref (ad "_law_taken"))
  m_place_of : Meth K C.c "place_of" (ad "K_place_of")
  m_cell_of : Meth K C.c "cell_of" (ad "K_cell_of")
  m_found_anew : Meth K C.c "found_anew" (ad "K_found_anew")
  m_put_at : Meth K C.c "put_at" (ad "K_put_at")
  m_taken : Meth K C.c "taken" (ad "K_taken")
  m_put_row : Meth K C.c "put_row" (ad "K_put_row")
  m_take_row : Meth K C.c "take_row" (ad "K_take_row")
  m_undo : Meth K C.c "undo" (ad "K_undo")
  m_wide_now : Meth K C.c "wide_now" (ad "K_wide_now")
  n_table : NoAttr K C.c "table"
  n_told : NoAttr K C.c "told"
  n_places : NoAttr K C.c "places"
  n_coming : NoAttr K C.c "coming"
  n_rows : NoAttr K C.c "rows"
  n_by_place : NoAttr K C.c "by_place"
  n_cells : NoAttr K C.c "cells"
  n_past : NoAttr K C.c "past"
  b_abs : mg "abs" = none
  b_all : mg "all" = none
  b_any : mg "any" = none
  b_bool : mg "bool" = none
  b_dict : mg "dict" = none
  b_enumerate : mg "enumerate" = none
  b_int : mg "int" = none
  b_isinstance : mg "isinstance" = none
  b_len : mg "len" = none
  b_list : mg "list" = none
  b_min : mg "min" = none
  b_range : mg "range" = none
  b_set : mg "set" = none
  b_sorted : mg "sorted" = none
  b_str : mg "str" = none
  b_sum : mg "sum" = none
  b_tuple : mg "tuple" = none
  b_zip : mg "zip" = none
  c_SEEN : ∃ t, mg "SEEN" = some (.str "seen" t)
  c_RISING : ∃ t, mg "RISING" = some (.str "rising" t)
  c_IS : ∃ t, mg "IS" = some (.str "is" t)
  c_NOT : ∃ t, mg "NOT" = some (.str "not" t)
  c_BELOW : ∃ t, mg "BELOW" = some (.str "below" t)
  c_ABOVE : ∃ t, mg "ABOVE" = some (.str "above" t)
  c_ROWS : ∃ t, mg "ROWS" = some (.str "rows" t)
  c_ALL : ∃ t, mg "ALL" = some (.str "all" t)
  c_QUOTE : ∃ t, mg "QUOTE" = some (.str "'" t)
  c_STROKE : ∃ t, mg "STROKE" = some (.str "\\" t)
  c_GAP : ∃ t, mg "GAP" = some (.str "_" t)
  a_WAYS : Addr
  c_WAYS : mg "WAYS" = some (.ref a_WAYS) ∧ ∀ H : Hp, TF K H a_WAYS ((["first", "last", "sum", "count", "least", "greatest", "unlike"] : List Str).map V.str)
  a_ADDING : Addr
  c_ADDING : mg "ADDING" = some (.ref a_ADDING) ∧ ∀ H : Hp, TF K H a_ADDING ((["sum", "count", "least", "greatest"] : List Str).map V.str)
section
variable {C : Bd} {P : Program} {w : World} {K : PySem.W.Frag} {mg : Str → Option Value} {base : Heap}
def b_is_number : SF := (evRet (evAndV (evArgs isiP (evCons (evVar 0) (evCons (evC (.ty "int")) evNil))) (evNotV (evArgs isiP (evCons (evVar 0) (evCons (evC (.ty "bool")) evNil))))))
def f_is_number : List SV → VH → EvR := evFun 1 0 b_is_number
theorem sc_is_number : FnScope ["thing"] ["thing"] (defScope s_is_number) := ⟨rfl, rfl, rfl, by decide +kernel, rfl, by decide +kernel, by decide +kernel⟩
theorem ok_is_number (T : Txt K mg C base) : OkF C P w K mg base 1 (T.ad "is_number") 1 f_is_number :=
  ok_def T.d_is_number sc_is_number rfl rfl fun cdv A outer s H hr => by
    have S := sc_is_number
    have hun := hr.un
    have hu9 : (A.deeper (envOfC "is_number" (defScope s_is_number) s.heap.objs.size (T.ad "is_number") cdv)).units + 9 < cLine := by omega
    have hu10 : (A.deeper (envOfC "is_number" (defScope s_is_number) s.heap.objs.size (T.ad "is_number") cdv)).units + 10 < cLine := by omega
    have hu64 : (A.deeper (envOfC "is_number" (defScope s_is_number) s.heap.objs.size (T.ad "is_number") cdv)).units + 64 < cLine := by omega
    have hu66 : (A.deeper (envOfC "is_number" (defScope s_is_number) s.heap.objs.size (T.ad "is_number") cdv)).units + 66 < cLine := by omega
    have hr0 := hr
    exact (ssOne (sRet (xAnd (xCallB call_isiAll isiP_ok T.b_isinstance (by decide +kernel) (aCons (xVar 0) (aCons (xTy T.b_int (by decide +kernel)) aNil))) (xAnd1 (xNot (xCallB call_isiAll isiP_ok T.b_isinstance (by decide +kernel) (aCons (xVar 0) (aCons (xTy T.b_bool (by decide +kernel)) aNil))))))))
def b_rank : SF := (evSeq (evIfS (evTest (evBin isNP (evVar 0) (evC .non))) (evRet (evArgs mkTup (evCons (evC (.int 0)) (evCons (evC (.int 0)) (evCons (evC (.str "")) evNil))))) evSkip)
    (evSeq (evIfS (evTest (evArgs isiP (evCons (evVar 0) (evCons (evC (.ty "str")) evNil)))) (evRet (evArgs mkTup (evCons (evC (.int 2)) (evCons (evC (.int 0)) (evCons (evVar 0) evNil))))) evSkip)
    (evRet (evArgs mkTup (evCons (evC (.int 1)) (evCons (evVar 0) (evCons (evC (.str "")) evNil)))))))
def f_rank : List SV → VH → EvR := evFun 1 0 b_rank
theorem sc_rank : FnScope ["value"] ["value"] (defScope s_rank) := ⟨rfl, rfl, rfl, by decide +kernel, rfl, by decide +kernel, by decide +kernel⟩
theorem ok_rank (T : Txt K mg C base) : OkF C P w K mg base 1 (T.ad "rank") 1 f_rank :=
  ok_def T.d_rank sc_rank rfl rfl fun cdv A outer s H hr => by
    have S := sc_rank
    have hun := hr.un
    have hu9 : (A.deeper (envOfC "rank" (defScope s_rank) s.heap.objs.size (T.ad "rank") cdv)).units + 9 < cLine := by omega
    have hu10 : (A.deeper (envOfC "rank" (defScope s_rank) s.heap.objs.size (T.ad "rank") cdv)).units + 10 < cLine := by omega
    have hu64 : (A.deeper (envOfC "rank" (defScope s_rank) s.heap.objs.size (T.ad "rank") cdv)).units + 64 < cLine := by omega
    have hu66 : (A.deeper (envOfC "rank" (defScope s_rank) s.heap.objs.size (T.ad "rank") cdv)).units + 66 < cLine := by omega
    have hr0 := hr
    exact (ssCons (sIf (tCmp op_isN isNP_ok (xVar 0) xNon) (ssOne (sRet (xTup (aCons xInt (aCons xInt (aCons xStr aNil)))))) ssNil)
      (ssCons (sIf (tVal (xCallB call_isiAll isiP_ok T.b_isinstance (by decide +kernel) (aCons (xVar 0) (aCons (xTy T.b_str (by decide +kernel)) aNil)))) (ssOne (sRet (xTup (aCons xInt (aCons xInt (aCons (xVar 0) aNil)))))) ssNil)
      (ssOne (sRet (xTup (aCons xInt (aCons (xVar 0) (aCons xStr aNil))))))))
def b_ranks : SF := (evRet (evArgs tupleAll (evCons (evComp (evSeqI (evVar 0)) (.one 1) evYes (evArgs f_rank (evCons (evVar 1) evNil)) [1]) evNil)))
def f_ranks : List SV → VH → EvR := evFun 1 1 b_ranks
theorem sc_ranks : FnScope ["values", "value"] ["values"] (defScope s_ranks) := ⟨rfl, rfl, rfl, by decide +kernel, rfl, by decide +kernel, by decide +kernel⟩
theorem ok_ranks (T : Txt K mg C base) : OkF C P w K mg base 2 (T.ad "ranks") 1 f_ranks :=
  ok_def T.d_ranks sc_ranks rfl rfl fun cdv A outer s H hr => by
    have S := sc_ranks
    have hun := hr.un
    have hu9 : (A.deeper (envOfC "ranks" (defScope s_ranks) s.heap.objs.size (T.ad "ranks") cdv)).units + 9 < cLine := by omega
    have hu10 : (A.deeper (envOfC "ranks" (defScope s_ranks) s.heap.objs.size (T.ad "ranks") cdv)).units + 10 < cLine := by omega
    have hu64 : (A.deeper (envOfC "ranks" (defScope s_ranks) s.heap.objs.size (T.ad "ranks") cdv)).units + 64 < cLine := by omega
    have hu66 : (A.deeper (envOfC "ranks" (defScope s_ranks) s.heap.objs.size (T.ad "ranks") cdv)).units + 66 < cLine := by omega
    have hr0 := hr
    exact (ssOne (sRet (xCallT (call_tupAll rfl) tupleAll_ok T.b_tuple (by decide +kernel) (aCons (xLc [("value", 1)] rfl S.nd (iSeq (xVar 0)) (by kernel_rfl) (fun _ _ _ _ _ => (gOne 1 S.nd)) (fun _ _ _ _ _ => tsNil) (fun _ _ _ _ _ => (xCall (ok_rank T) arity_fun (hr0.mono (by decide)) T.g_rank (aCons (xVar 1) aNil))) (by decide)) aNil))))
def b_stands_ahead : SF := (evRet (evBin ltD (evArgs f_rank (evCons (evVar 0) evNil)) (evArgs f_rank (evCons (evVar 1) evNil))))
def f_stands_ahead : List SV → VH → EvR := evFun 2 0 b_stands_ahead
theorem sc_stands_ahead : FnScope ["one", "other"] ["one", "other"] (defScope s_stands_ahead) := ⟨rfl, rfl, rfl, by decide +kernel, rfl, by decide +kernel, by decide +kernel⟩
theorem ok_stands_ahead (T : Txt K mg C base) : OkF C P w K mg base 2 (T.ad "stands_ahead") 2 f_stands_ahead :=
  ok_def T.d_stands_ahead sc_stands_ahead rfl rfl fun cdv A outer s H hr => by
    have S := sc_stands_ahead
    have hun := hr.un
    have hu9 : (A.deeper (envOfC "stands_ahead" (defScope s_stands_ahead) s.heap.objs.size (T.ad "stands_ahead") cdv)).units + 9 < cLine := by omega
    have hu10 : (A.deeper (envOfC "stands_ahead" (defScope s_stands_ahead) s.heap.objs.size (T.ad "stands_ahead") cdv)).units + 10 < cLine := by omega
    have hu64 : (A.deeper (envOfC "stands_ahead" (defScope s_stands_ahead) s.heap.objs.size (T.ad "stands_ahead") cdv)).units + 64 < cLine := by omega
    have hu66 : (A.deeper (envOfC "stands_ahead" (defScope s_stands_ahead) s.heap.objs.size (T.ad "stands_ahead") cdv)).units + 66 < cLine := by omega
    have hr0 := hr
    exact (ssOne (sRet (xCmp (op_ltD hu66) ltD_ok (xCall (ok_rank T) arity_fun (hr0.mono (by decide)) T.g_rank (aCons (xVar 0) aNil)) (xCall (ok_rank T) arity_fun (hr0.mono (by decide)) T.g_rank (aCons (xVar 1) aNil)))))
def b_risen : SF := (evRet (evSortK f_rank (evCons (evVar 0) evNil)))
def f_risen : List SV → VH → EvR := evFun 1 0 b_risen
theorem sc_risen : FnScope ["values"] ["values"] (defScope s_risen) := ⟨rfl, rfl, rfl, by decide +kernel, rfl, by decide +kernel, by decide +kernel⟩
theorem ok_risen (T : Txt K mg C base) : OkF C P w K mg base 3 (T.ad "risen") 1 f_risen :=
  ok_def T.d_risen sc_risen rfl rfl fun cdv A outer s H hr => by
    have S := sc_risen
    have hun := hr.un
    have hu9 : (A.deeper (envOfC "risen" (defScope s_risen) s.heap.objs.size (T.ad "risen") cdv)).units + 9 < cLine := by omega
    have hu10 : (A.deeper (envOfC "risen" (defScope s_risen) s.heap.objs.size (T.ad "risen") cdv)).units + 10 < cLine := by omega
    have hu64 : (A.deeper (envOfC "risen" (defScope s_risen) s.heap.objs.size (T.ad "risen") cdv)).units + 64 < cLine := by omega
    have hu66 : (A.deeper (envOfC "risen" (defScope s_risen) s.heap.objs.size (T.ad "risen") cdv)).units + 66 < cLine := by omega
    have hr0 := hr
    exact (ssOne (sRet (xSortK (ok_rank T) arity_fun (hr0.mono (by decide)) rfl T.g_rank T.b_sorted (aCons (xVar 0) aNil))))
def b_places_of : SF := (evSeq (evFor (evSeqI (evVar 1)) (.one 2) (evIfS (evTest (evBin notInAll (evVar 2) (evBin ixAll (evVar 0) (evC (.int 0))))) evNoS evSkip))
    (evRet (evComp (evSeqI (evVar 1)) (.one 2) evYes (evMethK .tup idxP (evBin ixAll (evVar 0) (evC (.int 0))) (evCons (evVar 2) evNil)) [2])))
def f_places_of : List SV → VH → EvR := evFun 2 1 b_places_of
theorem sc_places_of : FnScope ["table", "names", "name"] ["table", "names"] (defScope s_places_of) := ⟨rfl, rfl, rfl, by decide +kernel, rfl, by decide +kernel, by decide +kernel⟩
theorem ok_places_of (T : Txt K mg C base) : OkF C P w K mg base 1 (T.ad "places_of") 2 f_places_of :=
  ok_def T.d_places_of sc_places_of rfl rfl fun cdv A outer s H hr => by
    have S := sc_places_of
    have hun := hr.un
    have hu9 : (A.deeper (envOfC "places_of" (defScope s_places_of) s.heap.objs.size (T.ad "places_of") cdv)).units + 9 < cLine := by omega
    have hu10 : (A.deeper (envOfC "places_of" (defScope s_places_of) s.heap.objs.size (T.ad "places_of") cdv)).units + 10 < cLine := by omega
    have hu64 : (A.deeper (envOfC "places_of" (defScope s_places_of) s.heap.objs.size (T.ad "places_of") cdv)).units + 64 < cLine := by omega
    have hu66 : (A.deeper (envOfC "places_of" (defScope s_places_of) s.heap.objs.size (T.ad "places_of") cdv)).units + 66 < cLine := by omega
    have hr0 := hr
    exact (ssCons (sFor PassesOwn.never rfl (iSeq (xVar 1)) (gOne 2 S.nd) (ssOne (sIf (tCmp (op_notInAll hu66) notInAll_ok (xVar 2) (xIx hu9 (xVar 0) xInt)) (ssOne sNo) ssNil)))
      (ssOne (sRet (xLc [("name", 2)] rfl S.nd (iSeq (xVar 1)) (by kernel_rfl) (fun _ _ _ _ _ => (gOne 2 S.nd)) (fun _ _ _ _ _ => tsNil) (fun _ _ _ _ _ => (xMeth (kd := .tup) PySem.F.plainAttrs_tuple PySem.F.slot_tuple_index PySem.F.type_tuple_index (mt_idxN hu66) idxP_ok (xIx hu9 (xVar 0) xInt) (aCons (xVar 2) aNil))) (by decide)))))
def b_at_places : SF := (evRet (evArgs tupleAll (evCons (evComp (evSeqI (evVar 1)) (.one 2) evYes (evBin ixAll (evVar 0) (evVar 2)) [2]) evNil)))
def f_at_places : List SV → VH → EvR := evFun 2 1 b_at_places
theorem sc_at_places : FnScope ["row", "places", "place"] ["row", "places"] (defScope s_at_places) := ⟨rfl, rfl, rfl, by decide +kernel, rfl, by decide +kernel, by decide +kernel⟩
theorem ok_at_places (T : Txt K mg C base) : OkF C P w K mg base 1 (T.ad "at_places") 2 f_at_places :=
  ok_def T.d_at_places sc_at_places rfl rfl fun cdv A outer s H hr => by
    have S := sc_at_places
    have hun := hr.un
    have hu9 : (A.deeper (envOfC "at_places" (defScope s_at_places) s.heap.objs.size (T.ad "at_places") cdv)).units + 9 < cLine := by omega
    have hu10 : (A.deeper (envOfC "at_places" (defScope s_at_places) s.heap.objs.size (T.ad "at_places") cdv)).units + 10 < cLine := by omega
    have hu64 : (A.deeper (envOfC "at_places" (defScope s_at_places) s.heap.objs.size (T.ad "at_places") cdv)).units + 64 < cLine := by omega
    have hu66 : (A.deeper (envOfC "at_places" (defScope s_at_places) s.heap.objs.size (T.ad "at_places") cdv)).units + 66 < cLine := by omega
    have hr0 := hr
    exact (ssOne (sRet (xCallT (call_tupAll rfl) tupleAll_ok T.b_tuple (by decide +kernel) (aCons (xLc [("place", 2)] rfl S.nd (iSeq (xVar 1)) (by kernel_rfl) (fun _ _ _ _ _ => (gOne 2 S.nd)) (fun _ _ _ _ _ => tsNil) (fun _ _ _ _ _ => (xIx hu9 (xVar 0) (xVar 2))) (by decide)) aNil))))
def b_parts_of : SF := (evSeq (evAsg (.one 2) (evArgs f_places_of (evCons (evVar 0) (evCons (evVar 1) evNil))))
    (evRet (evComp (evSeqI (evBin ixAll (evVar 0) (evC (.int 1)))) (.one 3) evYes (evArgs f_at_places (evCons (evVar 3) (evCons (evVar 2) evNil))) [3])))
def f_parts_of : List SV → VH → EvR := evFun 2 2 b_parts_of
theorem sc_parts_of : FnScope ["table", "names", "places", "row"] ["table", "names"] (defScope s_parts_of) := ⟨rfl, rfl, rfl, by decide +kernel, rfl, by decide +kernel, by decide +kernel⟩
theorem ok_parts_of (T : Txt K mg C base) : OkF C P w K mg base 2 (T.ad "parts_of") 2 f_parts_of :=
  ok_def T.d_parts_of sc_parts_of rfl rfl fun cdv A outer s H hr => by
    have S := sc_parts_of
    have hun := hr.un
    have hu9 : (A.deeper (envOfC "parts_of" (defScope s_parts_of) s.heap.objs.size (T.ad "parts_of") cdv)).units + 9 < cLine := by omega
    have hu10 : (A.deeper (envOfC "parts_of" (defScope s_parts_of) s.heap.objs.size (T.ad "parts_of") cdv)).units + 10 < cLine := by omega
    have hu64 : (A.deeper (envOfC "parts_of" (defScope s_parts_of) s.heap.objs.size (T.ad "parts_of") cdv)).units + 64 < cLine := by omega
    have hu66 : (A.deeper (envOfC "parts_of" (defScope s_parts_of) s.heap.objs.size (T.ad "parts_of") cdv)).units + 66 < cLine := by omega
    have hr0 := hr
    exact (ssCons (sSet 2 S.nd (xCall (ok_places_of T) arity_fun (hr0.mono (by decide)) T.g_places_of (aCons (xVar 0) (aCons (xVar 1) aNil))))
      (ssOne (sRet (xLc [("row", 3)] rfl S.nd (iSeq (xIx hu9 (xVar 0) xInt)) (by kernel_rfl) (fun _ _ _ _ _ => (gOne 3 S.nd)) (fun _ _ _ _ _ => tsNil) (fun _ _ _ _ _ => (xCall (ok_at_places T) arity_fun (hr0.mono (by decide)) T.g_at_places_tables (aCons (xVar 3) (aCons (xVar 2) aNil)))) (by decide)))))
def b_kept : SF := (evRet (evArgs mkTup (evCons (evArgs tupleAll (evCons (evVar 1) evNil)) (evCons (evArgs tupleAll (evCons (evArgs f_parts_of (evCons (evVar 0) (evCons (evVar 1) evNil))) evNil)) evNil))))
def f_kept : List SV → VH → EvR := evFun 2 0 b_kept
theorem sc_kept : FnScope ["table", "names"] ["table", "names"] (defScope s_kept) := ⟨rfl, rfl, rfl, by decide +kernel, rfl, by decide +kernel, by decide +kernel⟩
theorem ok_kept (T : Txt K mg C base) : OkF C P w K mg base 3 (T.ad "kept") 2 f_kept :=
  ok_def T.d_kept sc_kept rfl rfl fun cdv A outer s H hr => by
    have S := sc_kept
    have hun := hr.un
    have hu9 : (A.deeper (envOfC "kept" (defScope s_kept) s.heap.objs.size (T.ad "kept") cdv)).units + 9 < cLine := by omega
    have hu10 : (A.deeper (envOfC "kept" (defScope s_kept) s.heap.objs.size (T.ad "kept") cdv)).units + 10 < cLine := by omega
    have hu64 : (A.deeper (envOfC "kept" (defScope s_kept) s.heap.objs.size (T.ad "kept") cdv)).units + 64 < cLine := by omega
    have hu66 : (A.deeper (envOfC "kept" (defScope s_kept) s.heap.objs.size (T.ad "kept") cdv)).units + 66 < cLine := by omega
    have hr0 := hr
    exact (ssOne (sRet (xTup (aCons (xCallT (call_tupAll rfl) tupleAll_ok T.b_tuple (by decide +kernel) (aCons (xVar 1) aNil)) (aCons (xCallT (call_tupAll rfl) tupleAll_ok T.b_tuple (by decide +kernel) (aCons (xCall (ok_parts_of T) arity_fun (hr0.mono (by decide)) T.g_parts_of (aCons (xVar 0) (aCons (xVar 1) aNil))) aNil)) aNil)))))
def b_numbers_by : SF := (evSeq (evAsg (.one 1) evNewT)
    (evSeq (evFor (evEnumI (evCons (evVar 0) evNil)) (.many [2, 3]) (evDrop (evMethK .lst appP (evMethK .dct sdP (evVar 1) (evCons (evVar 3) (evCons (evArgs mkLst evNil) evNil))) (evCons (evVar 2) evNil))))
    (evRet (evVar 1))))
def f_numbers_by : List SV → VH → EvR := evFun 1 3 b_numbers_by
theorem sc_numbers_by : FnScope ["parts", "found", "number", "part"] ["parts"] (defScope s_numbers_by) := ⟨rfl, rfl, rfl, by decide +kernel, rfl, by decide +kernel, by decide +kernel⟩
theorem ok_numbers_by (T : Txt K mg C base) : OkF C P w K mg base 1 (T.ad "numbers_by") 1 f_numbers_by :=
  ok_def T.d_numbers_by sc_numbers_by rfl rfl fun cdv A outer s H hr => by
    have S := sc_numbers_by
    have hun := hr.un
    have hu9 : (A.deeper (envOfC "numbers_by" (defScope s_numbers_by) s.heap.objs.size (T.ad "numbers_by") cdv)).units + 9 < cLine := by omega
    have hu10 : (A.deeper (envOfC "numbers_by" (defScope s_numbers_by) s.heap.objs.size (T.ad "numbers_by") cdv)).units + 10 < cLine := by omega
    have hu64 : (A.deeper (envOfC "numbers_by" (defScope s_numbers_by) s.heap.objs.size (T.ad "numbers_by") cdv)).units + 64 < cLine := by omega
    have hu66 : (A.deeper (envOfC "numbers_by" (defScope s_numbers_by) s.heap.objs.size (T.ad "numbers_by") cdv)).units + 66 < cLine := by omega
    have hr0 := hr
    exact (ssCons (sSet 1 S.nd xNewT)
      (ssCons (sFor PassesOwn.never rfl (iEnum T.b_enumerate (aCons (xVar 0) aNil)) (gMany [2, 3] rfl (gsCons 2 S.nd (gsCons 3 S.nd gsNil))) (ssOne (sExpr (xMeth (kd := .lst) PySem.F.plainAttrs_list PySem.F.slot_list_append PySem.F.type_list_append mt_append appP_ok (xMeth (kd := .dct) PySem.F.plainAttrs_dict PySem.F.slot_dict_setdefault PySem.F.type_dict_setdefault (mt_dtSd hu9) sdP_ok (xVar 1) (aCons (xVar 3) (aCons (xLst aNil) aNil))) (aCons (xVar 2) aNil)))))
      (ssOne (sRet (xVar 1)))))
def b_look_parted : SF := (evSeq (evAsg (.one 4) (evBin addV (evBin addV (evArgs listAll (evCons (evVar 1) evNil)) (evArgs listAll (evCons (evVar 2) evNil))) (evArgs listAll (evCons (evVar 3) evNil))))
    (evIfS (evOr (evTest (evBin eqP (evArgs lenAll (evCons (evVar 3) evNil)) (evC (.int 0)))) (evOr (evTest (evBin neP (evArgs lenAll (evCons (evVar 4) evNil)) (evArgs lenAll (evCons (evBin ixAll (evVar 0) (evC (.int 0))) evNil)))) (evTest (evArgs anyP (evCons (evComp (evSeqI (evBin ixAll (evVar 0) (evC (.int 0)))) (.one 5) evYes (evBin notInAll (evVar 5) (evVar 4)) [5]) evNil))))) evNoS evSkip))
def f_look_parted : List SV → VH → EvR := evFun 4 2 b_look_parted
theorem sc_look_parted : FnScope ["table", "key", "names", "values", "some", "name"] ["table", "key", "names", "values"] (defScope s_look_parted) := ⟨rfl, rfl, rfl, by decide +kernel, rfl, by decide +kernel, by decide +kernel⟩
theorem ok_look_parted (T : Txt K mg C base) : OkF C P w K mg base 1 (T.ad "look_parted") 4 f_look_parted :=
  ok_def T.d_look_parted sc_look_parted rfl rfl fun cdv A outer s H hr => by
    have S := sc_look_parted
    have hun := hr.un
    have hu9 : (A.deeper (envOfC "look_parted" (defScope s_look_parted) s.heap.objs.size (T.ad "look_parted") cdv)).units + 9 < cLine := by omega
    have hu10 : (A.deeper (envOfC "look_parted" (defScope s_look_parted) s.heap.objs.size (T.ad "look_parted") cdv)).units + 10 < cLine := by omega
    have hu64 : (A.deeper (envOfC "look_parted" (defScope s_look_parted) s.heap.objs.size (T.ad "look_parted") cdv)).units + 64 < cLine := by omega
    have hu66 : (A.deeper (envOfC "look_parted" (defScope s_look_parted) s.heap.objs.size (T.ad "look_parted") cdv)).units + 66 < cLine := by omega
    have hr0 := hr
    exact (ssCons (sSet 4 S.nd (xAdd (xAdd (xCallT (call_listAll rfl) listAll_ok T.b_list (by decide +kernel) (aCons (xVar 1) aNil)) (xCallT (call_listAll rfl) listAll_ok T.b_list (by decide +kernel) (aCons (xVar 2) aNil))) (xCallT (call_listAll rfl) listAll_ok T.b_list (by decide +kernel) (aCons (xVar 3) aNil))))
      (ssOne (sIf (PW.pt (wOr (tCmp (op_eqD hu64) eqP_ok (xCallB call_lenAll lenAll_ok T.b_len (by decide +kernel) (aCons (xVar 3) aNil)) xInt) (wOr (tCmp (op_neD hu64) neP_ok (xCallB call_lenAll lenAll_ok T.b_len (by decide +kernel) (aCons (xVar 4) aNil)) (xCallB call_lenAll lenAll_ok T.b_len (by decide +kernel) (aCons (xIx hu9 (xVar 0) xInt) aNil))) (wOr1 (tVal (xCallB (cr_any rfl) anyP_ok T.b_any (by decide +kernel) (aCons (xLc [("name", 5)] rfl S.nd (iSeq (xIx hu9 (xVar 0) xInt)) (by kernel_rfl) (fun _ _ _ _ _ => (gOne 5 S.nd)) (fun _ _ _ _ _ => tsNil) (fun _ _ _ _ _ => (xCmp (op_notInAll hu66) notInAll_ok (xVar 5) (xVar 4))) (by decide)) aNil))))))) (ssOne sNo) ssNil)))
def b_look_order : SF := (evIfS (evTest (evBin notInAll (evVar 0) (evArgs mkTup (evCons (evC (.str "seen")) (evCons (evC (.str "rising")) evNil))))) evNoS evSkip)
def f_look_order : List SV → VH → EvR := evFun 1 0 b_look_order
theorem sc_look_order : FnScope ["order"] ["order"] (defScope s_look_order) := ⟨rfl, rfl, rfl, by decide +kernel, rfl, by decide +kernel, by decide +kernel⟩
theorem ok_look_order (T : Txt K mg C base) : OkF C P w K mg base 1 (T.ad "look_order") 1 f_look_order :=
  ok_def T.d_look_order sc_look_order rfl rfl fun cdv A outer s H hr => by
    have S := sc_look_order
    have hun := hr.un
    have hu9 : (A.deeper (envOfC "look_order" (defScope s_look_order) s.heap.objs.size (T.ad "look_order") cdv)).units + 9 < cLine := by omega
    have hu10 : (A.deeper (envOfC "look_order" (defScope s_look_order) s.heap.objs.size (T.ad "look_order") cdv)).units + 10 < cLine := by omega
    have hu64 : (A.deeper (envOfC "look_order" (defScope s_look_order) s.heap.objs.size (T.ad "look_order") cdv)).units + 64 < cLine := by omega
    have hu66 : (A.deeper (envOfC "look_order" (defScope s_look_order) s.heap.objs.size (T.ad "look_order") cdv)).units + 66 < cLine := by omega
    have hr0 := hr
    exact (ssOne (sIf (tCmp (op_notInAll hu66) notInAll_ok (xVar 0) (xTup (aCons (xGStr T.c_SEEN) (aCons (xGStr T.c_RISING) aNil)))) (ssOne sNo) ssNil))
def b_unlike_ones : SF := (evRet (evArgs listAll (evCons (evArgs dictP (evCons (evComp (evSeqI (evVar 0)) (.one 1) evYes (evArgs mkTup (evCons (evVar 1) (evCons (evC (.bl true)) evNil))) [1]) evNil)) evNil)))
def f_unlike_ones : List SV → VH → EvR := evFun 1 1 b_unlike_ones
theorem sc_unlike_ones : FnScope ["some", "one"] ["some"] (defScope s_unlike_ones) := ⟨rfl, rfl, rfl, by decide +kernel, rfl, by decide +kernel, by decide +kernel⟩
theorem ok_unlike_ones (T : Txt K mg C base) : OkF C P w K mg base 1 (T.ad "unlike_ones") 1 f_unlike_ones :=
  ok_def T.d_unlike_ones sc_unlike_ones rfl rfl fun cdv A outer s H hr => by
    have S := sc_unlike_ones
    have hun := hr.un
    have hu9 : (A.deeper (envOfC "unlike_ones" (defScope s_unlike_ones) s.heap.objs.size (T.ad "unlike_ones") cdv)).units + 9 < cLine := by omega
    have hu10 : (A.deeper (envOfC "unlike_ones" (defScope s_unlike_ones) s.heap.objs.size (T.ad "unlike_ones") cdv)).units + 10 < cLine := by omega
    have hu64 : (A.deeper (envOfC "unlike_ones" (defScope s_unlike_ones) s.heap.objs.size (T.ad "unlike_ones") cdv)).units + 64 < cLine := by omega
    have hu66 : (A.deeper (envOfC "unlike_ones" (defScope s_unlike_ones) s.heap.objs.size (T.ad "unlike_ones") cdv)).units + 66 < cLine := by omega
    have hr0 := hr
    exact (ssOne (sRet (xCallT (call_listAll rfl) listAll_ok T.b_list (by decide +kernel) (aCons (xCallT (call_dictAll rfl hu10) dictP_ok T.b_dict (by decide +kernel) (aCons (xLc [("one", 1)] rfl S.nd (iSeq (xVar 0)) (by kernel_rfl) (fun _ _ _ _ _ => (gOne 1 S.nd)) (fun _ _ _ _ _ => tsNil) (fun _ _ _ _ _ => (xTup (aCons (xVar 1) (aCons xBl aNil)))) (by decide)) aNil)) aNil))))
def b_heads_by : SF := (evSeq (evAsg (.one 2) (evArgs f_unlike_ones (evCons (evVar 0) evNil)))
    (evRet (evIf (evTest (evBin eqP (evVar 1) (evC (.str "rising")))) (evSortK f_ranks (evCons (evVar 2) evNil)) (evVar 2))))
def f_heads_by : List SV → VH → EvR := evFun 2 1 b_heads_by
theorem sc_heads_by : FnScope ["some", "order", "heads"] ["some", "order"] (defScope s_heads_by) := ⟨rfl, rfl, rfl, by decide +kernel, rfl, by decide +kernel, by decide +kernel⟩
theorem ok_heads_by (T : Txt K mg C base) : OkF C P w K mg base 4 (T.ad "heads_by") 2 f_heads_by :=
  ok_def T.d_heads_by sc_heads_by rfl rfl fun cdv A outer s H hr => by
    have S := sc_heads_by
    have hun := hr.un
    have hu9 : (A.deeper (envOfC "heads_by" (defScope s_heads_by) s.heap.objs.size (T.ad "heads_by") cdv)).units + 9 < cLine := by omega
    have hu10 : (A.deeper (envOfC "heads_by" (defScope s_heads_by) s.heap.objs.size (T.ad "heads_by") cdv)).units + 10 < cLine := by omega
    have hu64 : (A.deeper (envOfC "heads_by" (defScope s_heads_by) s.heap.objs.size (T.ad "heads_by") cdv)).units + 64 < cLine := by omega
    have hu66 : (A.deeper (envOfC "heads_by" (defScope s_heads_by) s.heap.objs.size (T.ad "heads_by") cdv)).units + 66 < cLine := by omega
    have hr0 := hr
    exact (ssCons (sSet 2 S.nd (xCall (ok_unlike_ones T) arity_fun (hr0.mono (by decide)) T.g_unlike_ones (aCons (xVar 0) aNil)))
      (ssOne (sRet (xIf (tCmp (op_eqD hu64) eqP_ok (xVar 1) (xGStr T.c_RISING)) (xSortK (ok_ranks T) arity_fun (hr0.mono (by decide)) rfl T.g_ranks T.b_sorted (aCons (xVar 2) aNil)) (xVar 2)))))
def b_look_doubles : SF := (evSeq (evAsg (.one 1) evNewT)
    (evFor (evEnumI (evCons (evVar 0) evNil)) (.many [2, 3]) (evSeq (evIfS (evTest (evBin inAll (evVar 3) (evVar 1))) evNoS evSkip)
    (evPut (evVar 1) (evVar 3) (evVar 2)))))
def f_look_doubles : List SV → VH → EvR := evFun 1 3 b_look_doubles
theorem sc_look_doubles : FnScope ["places", "met", "number", "place"] ["places"] (defScope s_look_doubles) := ⟨rfl, rfl, rfl, by decide +kernel, rfl, by decide +kernel, by decide +kernel⟩
theorem ok_look_doubles (T : Txt K mg C base) : OkF C P w K mg base 1 (T.ad "look_doubles") 1 f_look_doubles :=
  ok_def T.d_look_doubles sc_look_doubles rfl rfl fun cdv A outer s H hr => by
    have S := sc_look_doubles
    have hun := hr.un
    have hu9 : (A.deeper (envOfC "look_doubles" (defScope s_look_doubles) s.heap.objs.size (T.ad "look_doubles") cdv)).units + 9 < cLine := by omega
    have hu10 : (A.deeper (envOfC "look_doubles" (defScope s_look_doubles) s.heap.objs.size (T.ad "look_doubles") cdv)).units + 10 < cLine := by omega
    have hu64 : (A.deeper (envOfC "look_doubles" (defScope s_look_doubles) s.heap.objs.size (T.ad "look_doubles") cdv)).units + 64 < cLine := by omega
    have hu66 : (A.deeper (envOfC "look_doubles" (defScope s_look_doubles) s.heap.objs.size (T.ad "look_doubles") cdv)).units + 66 < cLine := by omega
    have hr0 := hr
    exact (ssCons (sSet 1 S.nd xNewT)
      (ssOne (sFor PassesOwn.never rfl (iEnum T.b_enumerate (aCons (xVar 0) aNil)) (gMany [2, 3] rfl (gsCons 2 S.nd (gsCons 3 S.nd gsNil))) (ssCons (sIf (tCmp (op_inAll hu66) inAll_ok (xVar 3) (xVar 1)) (ssOne sNo) ssNil)
      (ssOne (sPut hu9 (xVar 1) (xVar 3) (xVar 2)))))))
def b_wide_of : SF := (evSeq (evAsg (.one 4) (evComp (evSeqI (evVar 1)) (.one 5) evYes (evArgs mkTup (evCons (evVar 5) (evCons (evArgs tupleAll (evCons (evComp (evSeqI (evVar 2)) (.one 6) evYes (evMethK .dct getP (evVar 3) (evCons (evArgs mkTup (evCons (evVar 5) (evCons (evVar 6) evNil))) evNil)) [6]) evNil)) evNil))) [5]))
    (evRet (evArgs mkTup (evCons (evArgs tupleAll (evCons (evBin ixAll (evVar 0) (evC (.int 0))) evNil)) (evCons (evArgs tupleAll (evCons (evBin ixAll (evVar 0) (evC (.int 1))) evNil)) (evCons (evArgs tupleAll (evCons (evBin ixAll (evVar 0) (evC (.int 2))) evNil)) (evCons (evArgs tupleAll (evCons (evVar 2) evNil)) (evCons (evArgs tupleAll (evCons (evVar 4) evNil)) evNil))))))))
def f_wide_of : List SV → VH → EvR := evFun 4 3 b_wide_of
theorem sc_wide_of : FnScope ["columns", "parts", "heads", "cells", "rows", "part", "head"] ["columns", "parts", "heads", "cells"] (defScope s_wide_of) := ⟨rfl, rfl, rfl, by decide +kernel, rfl, by decide +kernel, by decide +kernel⟩
theorem ok_wide_of (T : Txt K mg C base) : OkF C P w K mg base 1 (T.ad "wide_of") 4 f_wide_of :=
  ok_def T.d_wide_of sc_wide_of rfl rfl fun cdv A outer s H hr => by
    have S := sc_wide_of
    have hun := hr.un
    have hu9 : (A.deeper (envOfC "wide_of" (defScope s_wide_of) s.heap.objs.size (T.ad "wide_of") cdv)).units + 9 < cLine := by omega
    have hu10 : (A.deeper (envOfC "wide_of" (defScope s_wide_of) s.heap.objs.size (T.ad "wide_of") cdv)).units + 10 < cLine := by omega
    have hu64 : (A.deeper (envOfC "wide_of" (defScope s_wide_of) s.heap.objs.size (T.ad "wide_of") cdv)).units + 64 < cLine := by omega
    have hu66 : (A.deeper (envOfC "wide_of" (defScope s_wide_of) s.heap.objs.size (T.ad "wide_of") cdv)).units + 66 < cLine := by omega
    have hr0 := hr
    exact (ssCons (sSetLc 4 [("part", 5)] rfl S.nd (iSeq (xVar 1)) (by kernel_rfl) (fun _ _ _ _ _ => (gOne 5 S.nd)) (fun _ _ _ _ _ => tsNil) (fun _ _ _ _ _ => (xTup (aCons (xVar 5) (aCons (xCallT (call_tupAll rfl) tupleAll_ok T.b_tuple (by decide +kernel) (aCons (xLc [("head", 6)] rfl S.nd (iSeq (xVar 2)) (by kernel_rfl) (fun _ _ _ _ _ => (gOne 6 S.nd)) (fun _ _ _ _ _ => tsNil) (fun _ _ _ _ _ => (xMeth (kd := .dct) PySem.F.plainAttrs_dict PySem.F.slot_dict_get PySem.F.type_dict_get (mt_dtGet hu9) getP_ok (xVar 3) (aCons (xTup (aCons (xVar 5) (aCons (xVar 6) aNil))) aNil))) (by decide)) aNil)) aNil)))) (by decide))
      (ssOne (sRet (xTup (aCons (xCallT (call_tupAll rfl) tupleAll_ok T.b_tuple (by decide +kernel) (aCons (xIx hu9 (xVar 0) xInt) aNil)) (aCons (xCallT (call_tupAll rfl) tupleAll_ok T.b_tuple (by decide +kernel) (aCons (xIx hu9 (xVar 0) xInt) aNil)) (aCons (xCallT (call_tupAll rfl) tupleAll_ok T.b_tuple (by decide +kernel) (aCons (xIx hu9 (xVar 0) xInt) aNil)) (aCons (xCallT (call_tupAll rfl) tupleAll_ok T.b_tuple (by decide +kernel) (aCons (xVar 2) aNil)) (aCons (xCallT (call_tupAll rfl) tupleAll_ok T.b_tuple (by decide +kernel) (aCons (xVar 4) aNil)) aNil)))))))))
def b_folded : SF := (evSeq (evDrop (evArgs f_look_parted (evCons (evVar 0) (evCons (evVar 1) (evCons (evVar 2) (evCons (evVar 3) evNil))))))
    (evSeq (evDrop (evArgs f_look_order (evCons (evVar 4) evNil)))
    (evSeq (evPar [5, 6] (evCons (evArgs f_parts_of (evCons (evVar 0) (evCons (evVar 1) evNil))) (evCons (evArgs f_parts_of (evCons (evVar 0) (evCons (evVar 2) evNil))) evNil)))
    (evSeq (evAsg (.one 7) (evArgs lzP (evCons (evVar 5) (evCons (evVar 6) evNil))))
    (evSeq (evDrop (evArgs f_look_doubles (evCons (evVar 7) evNil)))
    (evSeq (evAsg (.one 8) (evArgs dzP (evCons (evVar 7) (evCons (evArgs f_parts_of (evCons (evVar 0) (evCons (evVar 3) evNil))) evNil))))
    (evRet (evArgs f_wide_of (evCons (evArgs mkTup (evCons (evVar 1) (evCons (evVar 2) (evCons (evVar 3) evNil)))) (evCons (evArgs f_unlike_ones (evCons (evVar 5) evNil)) (evCons (evArgs f_heads_by (evCons (evVar 6) (evCons (evVar 4) evNil))) (evCons (evVar 8) evNil))))))))))))
def f_folded : List SV → VH → EvR := evFun 5 4 b_folded
theorem sc_folded : FnScope ["table", "key", "names", "values", "order", "parts", "heads", "places", "cells"] ["table", "key", "names", "values", "order"] (defScope s_folded) := ⟨rfl, rfl, rfl, by decide +kernel, rfl, by decide +kernel, by decide +kernel⟩
theorem ok_folded (T : Txt K mg C base) : OkF C P w K mg base 5 (T.ad "folded") 5 f_folded :=
  ok_def T.d_folded sc_folded rfl rfl fun cdv A outer s H hr => by
    have S := sc_folded
    have hun := hr.un
    have hu9 : (A.deeper (envOfC "folded" (defScope s_folded) s.heap.objs.size (T.ad "folded") cdv)).units + 9 < cLine := by omega
    have hu10 : (A.deeper (envOfC "folded" (defScope s_folded) s.heap.objs.size (T.ad "folded") cdv)).units + 10 < cLine := by omega
    have hu64 : (A.deeper (envOfC "folded" (defScope s_folded) s.heap.objs.size (T.ad "folded") cdv)).units + 64 < cLine := by omega
    have hu66 : (A.deeper (envOfC "folded" (defScope s_folded) s.heap.objs.size (T.ad "folded") cdv)).units + 66 < cLine := by omega
    have hr0 := hr
    exact (ssCons (sExpr (xCall (ok_look_parted T) arity_fun (hr0.mono (by decide)) T.g_look_parted (aCons (xVar 0) (aCons (xVar 1) (aCons (xVar 2) (aCons (xVar 3) aNil))))))
      (ssCons (sExpr (xCall (ok_look_order T) arity_fun (hr0.mono (by decide)) T.g_look_order (aCons (xVar 4) aNil)))
      (ssCons (sPar2 5 6 rfl S.nd (by decide) (aCons (xCall (ok_parts_of T) arity_fun (hr0.mono (by decide)) T.g_parts_of (aCons (xVar 0) (aCons (xVar 1) aNil))) (aCons (xCall (ok_parts_of T) arity_fun (hr0.mono (by decide)) T.g_parts_of (aCons (xVar 0) (aCons (xVar 2) aNil))) aNil)))
      (ssCons (sSet 7 S.nd (xOfZip (zipR_list rfl) lzP_ok T.b_list (by decide +kernel) T.b_zip (aCons (xVar 5) (aCons (xVar 6) aNil))))
      (ssCons (sExpr (xCall (ok_look_doubles T) arity_fun (hr0.mono (by decide)) T.g_look_doubles (aCons (xVar 7) aNil)))
      (ssCons (sSet 8 S.nd (xOfZip (zipR_dict rfl hu10) dzP_ok T.b_dict (by decide +kernel) T.b_zip (aCons (xVar 7) (aCons (xCall (ok_parts_of T) arity_fun (hr0.mono (by decide)) T.g_parts_of (aCons (xVar 0) (aCons (xVar 3) aNil))) aNil))))
      (ssOne (sRet (xCall (ok_wide_of T) arity_fun (hr0.mono (by decide)) T.g_wide_of (aCons (xTup (aCons (xVar 1) (aCons (xVar 2) (aCons (xVar 3) aNil)))) (aCons (xCall (ok_unlike_ones T) arity_fun (hr0.mono (by decide)) T.g_unlike_ones (aCons (xVar 5) aNil)) (aCons (xCall (ok_heads_by T) arity_fun (hr0.mono (by decide)) T.g_heads_by (aCons (xVar 6) (aCons (xVar 4) aNil))) (aCons (xVar 8) aNil)))))))))))))
def b_unfolded : SF := (evSeq (evAsg (.many [1, 2, 3, 4, 5]) (evVar 0))
    (evSeq (evAsg (.one 6) (evArgs mkLst evNil))
    (evSeq (evFor (evSeqI (evVar 5)) (.many [7, 8]) (evDrop (evMethK .lst extP (evVar 6) (evCons (evComp (evZipI (evCons (evVar 4) (evCons (evVar 8) evNil))) (.many [9, 10]) (evTest (evBin notNP (evVar 10) (evC .non))) (evBin addV (evBin addV (evVar 7) (evVar 9)) (evVar 10)) [9, 10]) evNil))))
    (evRet (evArgs mkTup (evCons (evBin addV (evBin addV (evVar 1) (evVar 2)) (evVar 3)) (evCons (evArgs tupleAll (evCons (evVar 6) evNil)) evNil)))))))
def f_unfolded : List SV → VH → EvR := evFun 1 10 b_unfolded
theorem sc_unfolded : FnScope ["wide", "key", "names", "values", "heads", "rows", "found", "part", "cells", "head", "told"] ["wide"] (defScope s_unfolded) := ⟨rfl, rfl, rfl, by decide +kernel, rfl, by decide +kernel, by decide +kernel⟩
theorem ok_unfolded (T : Txt K mg C base) : OkF C P w K mg base 1 (T.ad "unfolded") 1 f_unfolded :=
  ok_def T.d_unfolded sc_unfolded rfl rfl fun cdv A outer s H hr => by
    have S := sc_unfolded
    have hun := hr.un
    have hu9 : (A.deeper (envOfC "unfolded" (defScope s_unfolded) s.heap.objs.size (T.ad "unfolded") cdv)).units + 9 < cLine := by omega
    have hu10 : (A.deeper (envOfC "unfolded" (defScope s_unfolded) s.heap.objs.size (T.ad "unfolded") cdv)).units + 10 < cLine := by omega
    have hu64 : (A.deeper (envOfC "unfolded" (defScope s_unfolded) s.heap.objs.size (T.ad "unfolded") cdv)).units + 64 < cLine := by omega
    have hu66 : (A.deeper (envOfC "unfolded" (defScope s_unfolded) s.heap.objs.size (T.ad "unfolded") cdv)).units + 66 < cLine := by omega
    have hr0 := hr
    exact (ssCons (sAsg (xVar 0) (gMany [1, 2, 3, 4, 5] rfl (gsCons 1 S.nd (gsCons 2 S.nd (gsCons 3 S.nd (gsCons 4 S.nd (gsCons 5 S.nd gsNil)))))))
      (ssCons (sSet 6 S.nd (xLst aNil))
      (ssCons (sFor PassesOwn.never rfl (iSeq (xVar 5)) (gMany [7, 8] rfl (gsCons 7 S.nd (gsCons 8 S.nd gsNil))) (ssOne (sExpr (xMeth (kd := .lst) PySem.F.plainAttrs_list PySem.F.slot_list_extend PySem.F.type_list_extend mt_extend extP_ok (xVar 6) (aCons (xLc [("head", 9), ("told", 10)] rfl S.nd (iZip T.b_zip (aCons (xVar 4) (aCons (xVar 8) aNil))) (by kernel_rfl) (fun _ _ _ _ _ => (gMany [9, 10] rfl (gsCons 9 S.nd (gsCons 10 S.nd gsNil)))) (fun _ _ _ _ _ => tsOne (tCmp op_notN notNP_ok (xVar 10) xNon)) (fun _ _ _ _ _ => (xAdd (xAdd (xVar 7) (xVar 9)) (xVar 10))) (by decide)) aNil)))))
      (ssOne (sRet (xTup (aCons (xAdd (xAdd (xVar 1) (xVar 2)) (xVar 3)) (aCons (xCallT (call_tupAll rfl) tupleAll_ok T.b_tuple (by decide +kernel) (aCons (xVar 6) aNil)) aNil))))))))
def b_gaps : SF := (evSeq (evAsg (.one 1) (evArgs mkLst evNil))
    (evSeq (evFor (evSeqI (evBin ixAll (evVar 0) (evC (.int 4)))) (.many [2, 3]) (evDrop (evMethK .lst extP (evVar 1) (evCons (evComp (evZipI (evCons (evBin ixAll (evVar 0) (evC (.int 3))) (evCons (evVar 3) evNil))) (.many [4, 5]) (evTest (evBin isNP (evVar 5) (evC .non))) (evArgs mkTup (evCons (evVar 2) (evCons (evVar 4) evNil))) [4, 5]) evNil))))
    (evRet (evVar 1))))
def f_gaps : List SV → VH → EvR := evFun 1 5 b_gaps
theorem sc_gaps : FnScope ["wide", "found", "part", "cells", "head", "told"] ["wide"] (defScope s_gaps) := ⟨rfl, rfl, rfl, by decide +kernel, rfl, by decide +kernel, by decide +kernel⟩
theorem ok_gaps (T : Txt K mg C base) : OkF C P w K mg base 1 (T.ad "gaps") 1 f_gaps :=
  ok_def T.d_gaps sc_gaps rfl rfl fun cdv A outer s H hr => by
    have S := sc_gaps
    have hun := hr.un
    have hu9 : (A.deeper (envOfC "gaps" (defScope s_gaps) s.heap.objs.size (T.ad "gaps") cdv)).units + 9 < cLine := by omega
    have hu10 : (A.deeper (envOfC "gaps" (defScope s_gaps) s.heap.objs.size (T.ad "gaps") cdv)).units + 10 < cLine := by omega
    have hu64 : (A.deeper (envOfC "gaps" (defScope s_gaps) s.heap.objs.size (T.ad "gaps") cdv)).units + 64 < cLine := by omega
    have hu66 : (A.deeper (envOfC "gaps" (defScope s_gaps) s.heap.objs.size (T.ad "gaps") cdv)).units + 66 < cLine := by omega
    have hr0 := hr
    exact (ssCons (sSet 1 S.nd (xLst aNil))
      (ssCons (sFor PassesOwn.never rfl (iSeq (xIx hu9 (xVar 0) xInt)) (gMany [2, 3] rfl (gsCons 2 S.nd (gsCons 3 S.nd gsNil))) (ssOne (sExpr (xMeth (kd := .lst) PySem.F.plainAttrs_list PySem.F.slot_list_extend PySem.F.type_list_extend mt_extend extP_ok (xVar 1) (aCons (xLc [("head", 4), ("told", 5)] rfl S.nd (iZip T.b_zip (aCons (xIx hu9 (xVar 0) xInt) (aCons (xVar 3) aNil))) (by kernel_rfl) (fun _ _ _ _ _ => (gMany [4, 5] rfl (gsCons 4 S.nd (gsCons 5 S.nd gsNil)))) (fun _ _ _ _ _ => tsOne (tCmp op_isN isNP_ok (xVar 5) xNon)) (fun _ _ _ _ _ => (xTup (aCons (xVar 2) (aCons (xVar 4) aNil)))) (by decide)) aNil)))))
      (ssOne (sRet (xVar 1)))))
def b_sum_of : SF := (evSeq (evAsg (.one 1) (evComp (evSeqI (evVar 0)) (.one 2) (evTest (evBin notNP (evVar 2) (evC .non))) (evVar 2) [2]))
    (evSeq (evIfS (evNot (evTest (evArgs allP (evCons (evComp (evSeqI (evVar 1)) (.one 2) evYes (evArgs f_is_number (evCons (evVar 2) evNil)) [2]) evNil)))) evNoS evSkip)
    (evRet (evArgs sumP (evCons (evVar 1) evNil)))))
def f_sum_of : List SV → VH → EvR := evFun 1 2 b_sum_of
theorem sc_sum_of : FnScope ["some", "there", "value"] ["some"] (defScope s_sum_of) := ⟨rfl, rfl, rfl, by decide +kernel, rfl, by decide +kernel, by decide +kernel⟩
theorem ok_sum_of (T : Txt K mg C base) : OkF C P w K mg base 2 (T.ad "sum_of") 1 f_sum_of :=
  ok_def T.d_sum_of sc_sum_of rfl rfl fun cdv A outer s H hr => by
    have S := sc_sum_of
    have hun := hr.un
    have hu9 : (A.deeper (envOfC "sum_of" (defScope s_sum_of) s.heap.objs.size (T.ad "sum_of") cdv)).units + 9 < cLine := by omega
    have hu10 : (A.deeper (envOfC "sum_of" (defScope s_sum_of) s.heap.objs.size (T.ad "sum_of") cdv)).units + 10 < cLine := by omega
    have hu64 : (A.deeper (envOfC "sum_of" (defScope s_sum_of) s.heap.objs.size (T.ad "sum_of") cdv)).units + 64 < cLine := by omega
    have hu66 : (A.deeper (envOfC "sum_of" (defScope s_sum_of) s.heap.objs.size (T.ad "sum_of") cdv)).units + 66 < cLine := by omega
    have hr0 := hr
    exact (ssCons (sSetLc 1 [("value", 2)] rfl S.nd (iSeq (xVar 0)) (by kernel_rfl) (fun _ _ _ _ _ => (gOne 2 S.nd)) (fun _ _ _ _ _ => tsOne (tCmp op_notN notNP_ok (xVar 2) xNon)) (fun _ _ _ _ _ => (xVar 2)) (by decide))
      (ssCons (sIf (tNotB (tVal (xCallB (cr_all rfl) allP_ok T.b_all (by decide +kernel) (aCons (xLc [("value", 2)] rfl S.nd (iSeq (xVar 1)) (by kernel_rfl) (fun _ _ _ _ _ => (gOne 2 S.nd)) (fun _ _ _ _ _ => tsNil) (fun _ _ _ _ _ => (xCall (ok_is_number T) arity_fun (hr0.mono (by decide)) T.g_is_number (aCons (xVar 2) aNil))) (by decide)) aNil)))) (ssOne sNo) ssNil)
      (ssOne (sRet (xCallB (cr_sum rfl) sumP_ok T.b_sum (by decide +kernel) (aCons (xVar 1) aNil))))))
def b_last_of : SF := (evRet (evIf (evTest (evBin (cmpI fun i j => decide (j < i)) (evArgs lenAll (evCons (evVar 0) evNil)) (evC (.int 0)))) (evBin ixAll (evVar 0) (evUn negP (evC (.int 1)))) (evC .non)))
def f_last_of : List SV → VH → EvR := evFun 1 0 b_last_of
theorem sc_last_of : FnScope ["some"] ["some"] (defScope s_last_of) := ⟨rfl, rfl, rfl, by decide +kernel, rfl, by decide +kernel, by decide +kernel⟩
theorem ok_last_of (T : Txt K mg C base) : OkF C P w K mg base 1 (T.ad "last_of") 1 f_last_of :=
  ok_def T.d_last_of sc_last_of rfl rfl fun cdv A outer s H hr => by
    have S := sc_last_of
    have hun := hr.un
    have hu9 : (A.deeper (envOfC "last_of" (defScope s_last_of) s.heap.objs.size (T.ad "last_of") cdv)).units + 9 < cLine := by omega
    have hu10 : (A.deeper (envOfC "last_of" (defScope s_last_of) s.heap.objs.size (T.ad "last_of") cdv)).units + 10 < cLine := by omega
    have hu64 : (A.deeper (envOfC "last_of" (defScope s_last_of) s.heap.objs.size (T.ad "last_of") cdv)).units + 64 < cLine := by omega
    have hu66 : (A.deeper (envOfC "last_of" (defScope s_last_of) s.heap.objs.size (T.ad "last_of") cdv)).units + 66 < cLine := by omega
    have hr0 := hr
    exact (ssOne (sRet (xIf (tCmp op_gt cmpI_ok (xCallB call_lenAll lenAll_ok T.b_len (by decide +kernel) (aCons (xVar 0) aNil)) xInt) (xIx hu9 (xVar 0) (xNeg xInt)) xNon)))
def b_put_together : SF := (evSeq (evIfS (evTest (evBin notInAll (evVar 1) (evC (.tup ((["first", "last", "sum", "count", "least", "greatest", "unlike"] : List Str).map SV.str))))) evNoS evSkip)
    (evSeq (evIfS (evTest (evBin eqP (evVar 1) (evC (.str "sum")))) (evRet (evArgs f_sum_of (evCons (evVar 0) evNil))) evSkip)
    (evSeq (evIfS (evTest (evBin eqP (evVar 1) (evC (.str "first")))) (evRet (evBin ixAll (evVar 0) (evC (.int 0)))) evSkip)
    (evSeq (evIfS (evTest (evBin eqP (evVar 1) (evC (.str "last")))) (evRet (evBin ixAll (evVar 0) (evUn negP (evC (.int 1))))) evSkip)
    (evSeq (evAsg (.one 2) (evComp (evSeqI (evVar 0)) (.one 3) (evTest (evBin notNP (evVar 3) (evC .non))) (evVar 3) [3]))
    (evSeq (evIfS (evTest (evBin eqP (evVar 1) (evC (.str "count")))) (evRet (evArgs lenAll (evCons (evVar 2) evNil))) evSkip)
    (evSeq (evIfS (evTest (evBin eqP (evVar 1) (evC (.str "unlike")))) (evRet (evUn lenSetP (evVar 2))) evSkip)
    (evRet (evIf (evTest (evBin eqP (evVar 1) (evC (.str "greatest")))) (evArgs f_last_of (evCons (evArgs f_risen (evCons (evVar 2) evNil)) evNil)) evNo)))))))))
def f_put_together : List SV → VH → EvR := evFun 2 2 b_put_together
theorem sc_put_together : FnScope ["some", "way", "there", "value"] ["some", "way"] (defScope s_put_together) := ⟨rfl, rfl, rfl, by decide +kernel, rfl, by decide +kernel, by decide +kernel⟩
theorem ok_put_together (T : Txt K mg C base) : OkF C P w K mg base 4 (T.ad "put_together") 2 f_put_together :=
  ok_def T.d_put_together sc_put_together rfl rfl fun cdv A outer s H hr => by
    have S := sc_put_together
    have hun := hr.un
    have hu9 : (A.deeper (envOfC "put_together" (defScope s_put_together) s.heap.objs.size (T.ad "put_together") cdv)).units + 9 < cLine := by omega
    have hu10 : (A.deeper (envOfC "put_together" (defScope s_put_together) s.heap.objs.size (T.ad "put_together") cdv)).units + 10 < cLine := by omega
    have hu64 : (A.deeper (envOfC "put_together" (defScope s_put_together) s.heap.objs.size (T.ad "put_together") cdv)).units + 64 < cLine := by omega
    have hu66 : (A.deeper (envOfC "put_together" (defScope s_put_together) s.heap.objs.size (T.ad "put_together") cdv)).units + 66 < cLine := by omega
    have hr0 := hr
    exact (ssCons (sIf (tCmp (op_notInAll hu66) notInAll_ok (xVar 1) (xGTup (ys := ["first", "last", "sum", "count", "least", "greatest", "unlike"]) T.c_WAYS.1 T.c_WAYS.2)) (ssOne sNo) ssNil)
      (ssCons (sIf (tCmp (op_eqD hu64) eqP_ok (xVar 1) xStr) (ssOne (sRet (xCall (ok_sum_of T) arity_fun (hr0.mono (by decide)) T.g_sum_of (aCons (xVar 0) aNil)))) ssNil)
      (ssCons (sIf (tCmp (op_eqD hu64) eqP_ok (xVar 1) xStr) (ssOne (sRet (xIx hu9 (xVar 0) xInt))) ssNil)
      (ssCons (sIf (tCmp (op_eqD hu64) eqP_ok (xVar 1) xStr) (ssOne (sRet (xIx hu9 (xVar 0) (xNeg xInt)))) ssNil)
      (ssCons (sSetLc 2 [("value", 3)] rfl S.nd (iSeq (xVar 0)) (by kernel_rfl) (fun _ _ _ _ _ => (gOne 3 S.nd)) (fun _ _ _ _ _ => tsOne (tCmp op_notN notNP_ok (xVar 3) xNon)) (fun _ _ _ _ _ => (xVar 3)) (by decide))
      (ssCons (sIf (tCmp (op_eqD hu64) eqP_ok (xVar 1) xStr) (ssOne (sRet (xCallB call_lenAll lenAll_ok T.b_len (by decide +kernel) (aCons (xVar 2) aNil)))) ssNil)
      (ssCons (sIf (tCmp (op_eqD hu64) eqP_ok (xVar 1) xStr) (ssOne (sRet (xLenSet rfl T.b_len T.b_set (xVar 2)))) ssNil)
      (ssOne (sRet (xIf (tCmp (op_eqD hu64) eqP_ok (xVar 1) xStr) (xCall (ok_last_of T) arity_fun (hr0.mono (by decide)) T.g_last_of (aCons (xCall (ok_risen T) arity_fun (hr0.mono (by decide)) T.g_risen (aCons (xVar 2) aNil)) aNil)) xNo))))))))))
def b_look_ways : SF := (evIfS (evOr (evTest (evBin neP (evArgs lenAll (evCons (evVar 1) evNil)) (evArgs lenAll (evCons (evVar 0) evNil)))) (evTest (evArgs anyP (evCons (evComp (evSeqI (evVar 1)) (.one 2) evYes (evBin notInAll (evVar 2) (evC (.tup ((["first", "last", "sum", "count", "least", "greatest", "unlike"] : List Str).map SV.str)))) [2]) evNil)))) evNoS evSkip)
def f_look_ways : List SV → VH → EvR := evFun 2 1 b_look_ways
theorem sc_look_ways : FnScope ["values", "ways", "way"] ["values", "ways"] (defScope s_look_ways) := ⟨rfl, rfl, rfl, by decide +kernel, rfl, by decide +kernel, by decide +kernel⟩
theorem ok_look_ways (T : Txt K mg C base) : OkF C P w K mg base 1 (T.ad "look_ways") 2 f_look_ways :=
  ok_def T.d_look_ways sc_look_ways rfl rfl fun cdv A outer s H hr => by
    have S := sc_look_ways
    have hun := hr.un
    have hu9 : (A.deeper (envOfC "look_ways" (defScope s_look_ways) s.heap.objs.size (T.ad "look_ways") cdv)).units + 9 < cLine := by omega
    have hu10 : (A.deeper (envOfC "look_ways" (defScope s_look_ways) s.heap.objs.size (T.ad "look_ways") cdv)).units + 10 < cLine := by omega
    have hu64 : (A.deeper (envOfC "look_ways" (defScope s_look_ways) s.heap.objs.size (T.ad "look_ways") cdv)).units + 64 < cLine := by omega
    have hu66 : (A.deeper (envOfC "look_ways" (defScope s_look_ways) s.heap.objs.size (T.ad "look_ways") cdv)).units + 66 < cLine := by omega
    have hr0 := hr
    exact (ssOne (sIf (PW.pt (wOr (tCmp (op_neD hu64) neP_ok (xCallB call_lenAll lenAll_ok T.b_len (by decide +kernel) (aCons (xVar 1) aNil)) (xCallB call_lenAll lenAll_ok T.b_len (by decide +kernel) (aCons (xVar 0) aNil))) (wOr1 (tVal (xCallB (cr_any rfl) anyP_ok T.b_any (by decide +kernel) (aCons (xLc [("way", 2)] rfl S.nd (iSeq (xVar 1)) (by kernel_rfl) (fun _ _ _ _ _ => (gOne 2 S.nd)) (fun _ _ _ _ _ => tsNil) (fun _ _ _ _ _ => (xCmp (op_notInAll hu66) notInAll_ok (xVar 2) (xGTup (ys := ["first", "last", "sum", "count", "least", "greatest", "unlike"]) T.c_WAYS.1 T.c_WAYS.2))) (by decide)) aNil)))))) (ssOne sNo) ssNil))
def b_rows_at : SF := (evRet (evArgs f_numbers_by (evCons (evArgs lzP (evCons (evArgs f_parts_of (evCons (evVar 0) (evCons (evVar 1) evNil))) (evCons (evArgs f_parts_of (evCons (evVar 0) (evCons (evVar 2) evNil))) evNil))) evNil)))
def f_rows_at : List SV → VH → EvR := evFun 3 0 b_rows_at
theorem sc_rows_at : FnScope ["table", "key", "names"] ["table", "key", "names"] (defScope s_rows_at) := ⟨rfl, rfl, rfl, by decide +kernel, rfl, by decide +kernel, by decide +kernel⟩
theorem ok_rows_at (T : Txt K mg C base) : OkF C P w K mg base 3 (T.ad "rows_at") 3 f_rows_at :=
  ok_def T.d_rows_at sc_rows_at rfl rfl fun cdv A outer s H hr => by
    have S := sc_rows_at
    have hun := hr.un
    have hu9 : (A.deeper (envOfC "rows_at" (defScope s_rows_at) s.heap.objs.size (T.ad "rows_at") cdv)).units + 9 < cLine := by omega
    have hu10 : (A.deeper (envOfC "rows_at" (defScope s_rows_at) s.heap.objs.size (T.ad "rows_at") cdv)).units + 10 < cLine := by omega
    have hu64 : (A.deeper (envOfC "rows_at" (defScope s_rows_at) s.heap.objs.size (T.ad "rows_at") cdv)).units + 64 < cLine := by omega
    have hu66 : (A.deeper (envOfC "rows_at" (defScope s_rows_at) s.heap.objs.size (T.ad "rows_at") cdv)).units + 66 < cLine := by omega
    have hr0 := hr
    exact (ssOne (sRet (xCall (ok_numbers_by T) arity_fun (hr0.mono (by decide)) T.g_numbers_by (aCons (xOfZip (zipR_list rfl) lzP_ok T.b_list (by decide +kernel) T.b_zip (aCons (xCall (ok_parts_of T) arity_fun (hr0.mono (by decide)) T.g_parts_of (aCons (xVar 0) (aCons (xVar 1) aNil))) (aCons (xCall (ok_parts_of T) arity_fun (hr0.mono (by decide)) T.g_parts_of (aCons (xVar 0) (aCons (xVar 2) aNil))) aNil))) aNil))))
def b_cell_of : SF := (evRet (evArgs tupleAll (evCons (evComp (evEnumI (evCons (evVar 2) evNil)) (.many [3, 4]) evYes (evArgs f_put_together (evCons (evComp (evSeqI (evVar 1)) (.one 5) evYes (evBin ixAll (evBin ixAll (evVar 0) (evVar 5)) (evVar 3)) [5]) (evCons (evVar 4) evNil))) [3, 4]) evNil)))
def f_cell_of : List SV → VH → EvR := evFun 3 3 b_cell_of
theorem sc_cell_of : FnScope ["rows", "numbers", "ways", "place", "way", "number"] ["rows", "numbers", "ways"] (defScope s_cell_of) := ⟨rfl, rfl, rfl, by decide +kernel, rfl, by decide +kernel, by decide +kernel⟩
theorem ok_cell_of (T : Txt K mg C base) : OkF C P w K mg base 5 (T.ad "cell_of") 3 f_cell_of :=
  ok_def T.d_cell_of sc_cell_of rfl rfl fun cdv A outer s H hr => by
    have S := sc_cell_of
    have hun := hr.un
    have hu9 : (A.deeper (envOfC "cell_of" (defScope s_cell_of) s.heap.objs.size (T.ad "cell_of") cdv)).units + 9 < cLine := by omega
    have hu10 : (A.deeper (envOfC "cell_of" (defScope s_cell_of) s.heap.objs.size (T.ad "cell_of") cdv)).units + 10 < cLine := by omega
    have hu64 : (A.deeper (envOfC "cell_of" (defScope s_cell_of) s.heap.objs.size (T.ad "cell_of") cdv)).units + 64 < cLine := by omega
    have hu66 : (A.deeper (envOfC "cell_of" (defScope s_cell_of) s.heap.objs.size (T.ad "cell_of") cdv)).units + 66 < cLine := by omega
    have hr0 := hr
    exact (ssOne (sRet (xCallT (call_tupAll rfl) tupleAll_ok T.b_tuple (by decide +kernel) (aCons (xLc [("place", 3), ("way", 4)] rfl S.nd (iEnum T.b_enumerate (aCons (xVar 2) aNil)) (by kernel_rfl) (fun _ _ _ _ _ => (gMany [3, 4] rfl (gsCons 3 S.nd (gsCons 4 S.nd gsNil)))) (fun _ _ _ _ _ => tsNil) (fun _ _ _ _ _ => (xCall (ok_put_together T) arity_fun (hr0.mono (by decide)) T.g_put_together (aCons (xLc [("number", 5)] rfl S.nd (iSeq (xVar 1)) (by kernel_rfl) (fun _ _ _ _ _ => (gOne 5 S.nd)) (fun _ _ _ _ _ => tsNil) (fun _ _ _ _ _ => (xIx hu9 (xIx hu9 (xVar 0) (xVar 5)) (xVar 3))) (by decide)) (aCons (xVar 4) aNil)))) (by decide)) aNil))))
def b_folded_by : SF := (evSeq (evDrop (evArgs f_look_parted (evCons (evVar 0) (evCons (evVar 1) (evCons (evVar 2) (evCons (evVar 3) evNil))))))
    (evSeq (evDrop (evArgs f_look_order (evCons (evVar 5) evNil)))
    (evSeq (evDrop (evArgs f_look_ways (evCons (evVar 3) (evCons (evVar 4) evNil))))
    (evSeq (evAsg (.one 6) (evArgs f_parts_of (evCons (evVar 0) (evCons (evVar 3) evNil))))
    (evSeq (evAsg (.one 7) evNewT)
    (evSeq (evFor (evItemsI (evArgs f_rows_at (evCons (evVar 0) (evCons (evVar 1) (evCons (evVar 2) evNil))))) (.many [8, 9]) (evPut (evVar 7) (evVar 8) (evArgs f_cell_of (evCons (evVar 6) (evCons (evVar 9) (evCons (evVar 4) evNil))))))
    (evSeq (evPar [10, 11] (evCons (evArgs f_parts_of (evCons (evVar 0) (evCons (evVar 1) evNil))) (evCons (evArgs f_parts_of (evCons (evVar 0) (evCons (evVar 2) evNil))) evNil)))
    (evRet (evArgs f_wide_of (evCons (evArgs mkTup (evCons (evVar 1) (evCons (evVar 2) (evCons (evVar 3) evNil)))) (evCons (evArgs f_unlike_ones (evCons (evVar 10) evNil)) (evCons (evArgs f_heads_by (evCons (evVar 11) (evCons (evVar 5) evNil))) (evCons (evVar 7) evNil)))))))))))))
def f_folded_by : List SV → VH → EvR := evFun 6 6 b_folded_by
theorem sc_folded_by : FnScope ["table", "key", "names", "values", "ways", "order", "rows", "cells", "place", "numbers", "parts", "heads"] ["table", "key", "names", "values", "ways", "order"] (defScope s_folded_by) := ⟨rfl, rfl, rfl, by decide +kernel, rfl, by decide +kernel, by decide +kernel⟩
theorem ok_folded_by (T : Txt K mg C base) : OkF C P w K mg base 6 (T.ad "folded_by") 6 f_folded_by :=
  ok_def T.d_folded_by sc_folded_by rfl rfl fun cdv A outer s H hr => by
    have S := sc_folded_by
    have hun := hr.un
    have hu9 : (A.deeper (envOfC "folded_by" (defScope s_folded_by) s.heap.objs.size (T.ad "folded_by") cdv)).units + 9 < cLine := by omega
    have hu10 : (A.deeper (envOfC "folded_by" (defScope s_folded_by) s.heap.objs.size (T.ad "folded_by") cdv)).units + 10 < cLine := by omega
    have hu64 : (A.deeper (envOfC "folded_by" (defScope s_folded_by) s.heap.objs.size (T.ad "folded_by") cdv)).units + 64 < cLine := by omega
    have hu66 : (A.deeper (envOfC "folded_by" (defScope s_folded_by) s.heap.objs.size (T.ad "folded_by") cdv)).units + 66 < cLine := by omega
    have hr0 := hr
    exact (ssCons (sExpr (xCall (ok_look_parted T) arity_fun (hr0.mono (by decide)) T.g_look_parted (aCons (xVar 0) (aCons (xVar 1) (aCons (xVar 2) (aCons (xVar 3) aNil))))))
      (ssCons (sExpr (xCall (ok_look_order T) arity_fun (hr0.mono (by decide)) T.g_look_order (aCons (xVar 5) aNil)))
      (ssCons (sExpr (xCall (ok_look_ways T) arity_fun (hr0.mono (by decide)) T.g_look_ways_foldby (aCons (xVar 3) (aCons (xVar 4) aNil))))
      (ssCons (sSet 6 S.nd (xCall (ok_parts_of T) arity_fun (hr0.mono (by decide)) T.g_parts_of (aCons (xVar 0) (aCons (xVar 3) aNil))))
      (ssCons (sSet 7 S.nd xNewT)
      (ssCons (sFor PassesOwn.never rfl (iItems (xCall (ok_rows_at T) arity_fun (hr0.mono (by decide)) T.g_rows_at (aCons (xVar 0) (aCons (xVar 1) (aCons (xVar 2) aNil))))) (gMany [8, 9] rfl (gsCons 8 S.nd (gsCons 9 S.nd gsNil))) (ssOne (sPut hu9 (xVar 7) (xVar 8) (xCall (ok_cell_of T) arity_fun (hr0.mono (by decide)) T.g_cell_of (aCons (xVar 6) (aCons (xVar 9) (aCons (xVar 4) aNil)))))))
      (ssCons (sPar2 10 11 rfl S.nd (by decide) (aCons (xCall (ok_parts_of T) arity_fun (hr0.mono (by decide)) T.g_parts_of (aCons (xVar 0) (aCons (xVar 1) aNil))) (aCons (xCall (ok_parts_of T) arity_fun (hr0.mono (by decide)) T.g_parts_of (aCons (xVar 0) (aCons (xVar 2) aNil))) aNil)))
      (ssOne (sRet (xCall (ok_wide_of T) arity_fun (hr0.mono (by decide)) T.g_wide_of (aCons (xTup (aCons (xVar 1) (aCons (xVar 2) (aCons (xVar 3) aNil)))) (aCons (xCall (ok_unlike_ones T) arity_fun (hr0.mono (by decide)) T.g_unlike_ones (aCons (xVar 10) aNil)) (aCons (xCall (ok_heads_by T) arity_fun (hr0.mono (by decide)) T.g_heads_by (aCons (xVar 11) (aCons (xVar 5) aNil))) (aCons (xVar 7) aNil))))))))))))))
def b_look_unlike : SF := (evIfS (evOr (evTest (evArgs anyP (evCons (evComp (evSeqI (evVar 1)) (.one 2) evYes (evBin notInAll (evVar 2) (evBin ixAll (evVar 0) (evC (.int 0)))) [2]) evNil))) (evTest (evBin ltD (evUn lenSetP (evVar 1)) (evArgs lenAll (evCons (evVar 1) evNil))))) evNoS evSkip)
def f_look_unlike : List SV → VH → EvR := evFun 2 1 b_look_unlike
theorem sc_look_unlike : FnScope ["table", "names", "name"] ["table", "names"] (defScope s_look_unlike) := ⟨rfl, rfl, rfl, by decide +kernel, rfl, by decide +kernel, by decide +kernel⟩
theorem ok_look_unlike (T : Txt K mg C base) : OkF C P w K mg base 1 (T.ad "look_unlike") 2 f_look_unlike :=
  ok_def T.d_look_unlike sc_look_unlike rfl rfl fun cdv A outer s H hr => by
    have S := sc_look_unlike
    have hun := hr.un
    have hu9 : (A.deeper (envOfC "look_unlike" (defScope s_look_unlike) s.heap.objs.size (T.ad "look_unlike") cdv)).units + 9 < cLine := by omega
    have hu10 : (A.deeper (envOfC "look_unlike" (defScope s_look_unlike) s.heap.objs.size (T.ad "look_unlike") cdv)).units + 10 < cLine := by omega
    have hu64 : (A.deeper (envOfC "look_unlike" (defScope s_look_unlike) s.heap.objs.size (T.ad "look_unlike") cdv)).units + 64 < cLine := by omega
    have hu66 : (A.deeper (envOfC "look_unlike" (defScope s_look_unlike) s.heap.objs.size (T.ad "look_unlike") cdv)).units + 66 < cLine := by omega
    have hr0 := hr
    exact (ssOne (sIf (PW.pt (wOr (tVal (xCallB (cr_any rfl) anyP_ok T.b_any (by decide +kernel) (aCons (xLc [("name", 2)] rfl S.nd (iSeq (xVar 1)) (by kernel_rfl) (fun _ _ _ _ _ => (gOne 2 S.nd)) (fun _ _ _ _ _ => tsNil) (fun _ _ _ _ _ => (xCmp (op_notInAll hu66) notInAll_ok (xVar 2) (xIx hu9 (xVar 0) xInt))) (by decide)) aNil))) (wOr1 (tCmp (op_ltD hu66) ltD_ok (xLenSet rfl T.b_len T.b_set (xVar 1)) (xCallB call_lenAll lenAll_ok T.b_len (by decide +kernel) (aCons (xVar 1) aNil)))))) (ssOne sNo) ssNil))
def b_sources : SF := (evSeq (evDrop (evArgs f_look_unlike (evCons (evVar 0) (evCons (evBin addV (evArgs listAll (evCons (evVar 1) evNil)) (evArgs listAll (evCons (evVar 2) evNil))) evNil))))
    (evSeq (evDrop (evArgs f_look_order (evCons (evVar 3) evNil)))
    (evSeq (evAsg (.one 4) (evArgs f_rows_at (evCons (evVar 0) (evCons (evVar 1) (evCons (evVar 2) evNil)))))
    (evSeq (evAsg (.one 5) (evArgs f_heads_by (evCons (evArgs f_parts_of (evCons (evVar 0) (evCons (evVar 2) evNil))) (evCons (evVar 3) evNil))))
    (evSeq (evAsg (.one 6) (evArgs mkLst evNil))
    (evSeq (evFor (evSeqI (evArgs f_unlike_ones (evCons (evArgs f_parts_of (evCons (evVar 0) (evCons (evVar 1) evNil))) evNil))) (.one 7) (evDrop (evMethK .lst appP (evVar 6) (evCons (evArgs tupleAll (evCons (evComp (evSeqI (evVar 5)) (.one 8) evYes (evArgs tupleAll (evCons (evMethK .dct getP (evVar 4) (evCons (evArgs mkTup (evCons (evVar 7) (evCons (evVar 8) evNil))) (evCons (evArgs mkTup evNil) evNil))) evNil)) [8]) evNil)) evNil))))
    (evRet (evArgs tupleAll (evCons (evVar 6) evNil)))))))))
def f_sources : List SV → VH → EvR := evFun 4 5 b_sources
theorem sc_sources : FnScope ["table", "key", "names", "order", "found", "heads", "told", "part", "head"] ["table", "key", "names", "order"] (defScope s_sources) := ⟨rfl, rfl, rfl, by decide +kernel, rfl, by decide +kernel, by decide +kernel⟩
theorem ok_sources (T : Txt K mg C base) : OkF C P w K mg base 5 (T.ad "sources") 4 f_sources :=
  ok_def T.d_sources sc_sources rfl rfl fun cdv A outer s H hr => by
    have S := sc_sources
    have hun := hr.un
    have hu9 : (A.deeper (envOfC "sources" (defScope s_sources) s.heap.objs.size (T.ad "sources") cdv)).units + 9 < cLine := by omega
    have hu10 : (A.deeper (envOfC "sources" (defScope s_sources) s.heap.objs.size (T.ad "sources") cdv)).units + 10 < cLine := by omega
    have hu64 : (A.deeper (envOfC "sources" (defScope s_sources) s.heap.objs.size (T.ad "sources") cdv)).units + 64 < cLine := by omega
    have hu66 : (A.deeper (envOfC "sources" (defScope s_sources) s.heap.objs.size (T.ad "sources") cdv)).units + 66 < cLine := by omega
    have hr0 := hr
    exact (ssCons (sExpr (xCall (ok_look_unlike T) arity_fun (hr0.mono (by decide)) T.g_look_unlike (aCons (xVar 0) (aCons (xAdd (xCallT (call_listAll rfl) listAll_ok T.b_list (by decide +kernel) (aCons (xVar 1) aNil)) (xCallT (call_listAll rfl) listAll_ok T.b_list (by decide +kernel) (aCons (xVar 2) aNil))) aNil))))
      (ssCons (sExpr (xCall (ok_look_order T) arity_fun (hr0.mono (by decide)) T.g_look_order (aCons (xVar 3) aNil)))
      (ssCons (sSet 4 S.nd (xCall (ok_rows_at T) arity_fun (hr0.mono (by decide)) T.g_rows_at (aCons (xVar 0) (aCons (xVar 1) (aCons (xVar 2) aNil)))))
      (ssCons (sSet 5 S.nd (xCall (ok_heads_by T) arity_fun (hr0.mono (by decide)) T.g_heads_by (aCons (xCall (ok_parts_of T) arity_fun (hr0.mono (by decide)) T.g_parts_of (aCons (xVar 0) (aCons (xVar 2) aNil))) (aCons (xVar 3) aNil))))
      (ssCons (sSet 6 S.nd (xLst aNil))
      (ssCons (sFor PassesOwn.never rfl (iSeq (xCall (ok_unlike_ones T) arity_fun (hr0.mono (by decide)) T.g_unlike_ones (aCons (xCall (ok_parts_of T) arity_fun (hr0.mono (by decide)) T.g_parts_of (aCons (xVar 0) (aCons (xVar 1) aNil))) aNil))) (gOne 7 S.nd) (ssOne (sExpr (xMeth (kd := .lst) PySem.F.plainAttrs_list PySem.F.slot_list_append PySem.F.type_list_append mt_append appP_ok (xVar 6) (aCons (xCallT (call_tupAll rfl) tupleAll_ok T.b_tuple (by decide +kernel) (aCons (xLc [("head", 8)] rfl S.nd (iSeq (xVar 5)) (by kernel_rfl) (fun _ _ _ _ _ => (gOne 8 S.nd)) (fun _ _ _ _ _ => tsNil) (fun _ _ _ _ _ => (xCallT (call_tupAll rfl) tupleAll_ok T.b_tuple (by decide +kernel) (aCons (xMeth (kd := .dct) PySem.F.plainAttrs_dict PySem.F.slot_dict_get PySem.F.type_dict_get (mt_dtGet hu9) getP_ok (xVar 4) (aCons (xTup (aCons (xVar 7) (aCons (xVar 8) aNil))) (aCons (xTup aNil) aNil))) aNil))) (by decide)) aNil)) aNil)))))
      (ssOne (sRet (xCallT (call_tupAll rfl) tupleAll_ok T.b_tuple (by decide +kernel) (aCons (xVar 6) aNil))))))))))
def b_rolled : SF := (evSeq (evIfS (evTest (evBin neP (evArgs sortedAll (evCons (evBin addV (evBin addV (evArgs listAll (evCons (evVar 1) evNil)) (evArgs listAll (evCons (evVar 2) evNil))) (evArgs listAll (evCons (evVar 3) evNil))) evNil)) (evArgs sortedAll (evCons (evBin ixAll (evVar 0) (evC (.int 0))) evNil)))) evNoS evSkip)
    (evSeq (evPar [1, 2, 3] (evCons (evSl none (some (evVar 6)) (evArgs listAll (evCons (evVar 1) evNil))) (evCons (evSl none (some (evVar 7)) (evArgs listAll (evCons (evVar 2) evNil))) (evCons (evArgs listAll (evCons (evVar 3) evNil)) evNil))))
    (evSeq (evIfS (evTest (evBin eqP (evArgs lenAll (evCons (evVar 3) evNil)) (evC (.int 0)))) evNoS evSkip)
    (evRet (evArgs f_folded_by (evCons (evArgs f_kept (evCons (evVar 0) (evCons (evBin addV (evBin addV (evVar 1) (evVar 2)) (evVar 3)) evNil))) (evCons (evVar 1) (evCons (evVar 2) (evCons (evVar 3) (evCons (evVar 4) (evCons (evVar 5) evNil)))))))))))
def f_rolled : List SV → VH → EvR := evFun 8 0 b_rolled
theorem sc_rolled : FnScope ["table", "key", "names", "values", "ways", "order", "deep", "far"] ["table", "key", "names", "values", "ways", "order", "deep", "far"] (defScope s_rolled) := ⟨rfl, rfl, rfl, by decide +kernel, rfl, by decide +kernel, by decide +kernel⟩
theorem ok_rolled (T : Txt K mg C base) : OkF C P w K mg base 7 (T.ad "rolled") 8 f_rolled :=
  ok_def T.d_rolled sc_rolled rfl rfl fun cdv A outer s H hr => by
    have S := sc_rolled
    have hun := hr.un
    have hu9 : (A.deeper (envOfC "rolled" (defScope s_rolled) s.heap.objs.size (T.ad "rolled") cdv)).units + 9 < cLine := by omega
    have hu10 : (A.deeper (envOfC "rolled" (defScope s_rolled) s.heap.objs.size (T.ad "rolled") cdv)).units + 10 < cLine := by omega
    have hu64 : (A.deeper (envOfC "rolled" (defScope s_rolled) s.heap.objs.size (T.ad "rolled") cdv)).units + 64 < cLine := by omega
    have hu66 : (A.deeper (envOfC "rolled" (defScope s_rolled) s.heap.objs.size (T.ad "rolled") cdv)).units + 66 < cLine := by omega
    have hr0 := hr
    exact (ssCons (sIf (tCmp (op_neD hu64) neP_ok (xCallB (cr_sortedAll rfl hu66) sortedAll_ok T.b_sorted (by decide +kernel) (aCons (xAdd (xAdd (xCallT (call_listAll rfl) listAll_ok T.b_list (by decide +kernel) (aCons (xVar 1) aNil)) (xCallT (call_listAll rfl) listAll_ok T.b_list (by decide +kernel) (aCons (xVar 2) aNil))) (xCallT (call_listAll rfl) listAll_ok T.b_list (by decide +kernel) (aCons (xVar 3) aNil))) aNil)) (xCallB (cr_sortedAll rfl hu66) sortedAll_ok T.b_sorted (by decide +kernel) (aCons (xIx hu9 (xVar 0) xInt) aNil))) (ssOne sNo) ssNil)
      (ssCons (sPar3 1 2 3 rfl S.nd (by decide) (by decide) (by decide) (aCons (xSl1 (xCallT (call_listAll rfl) listAll_ok T.b_list (by decide +kernel) (aCons (xVar 1) aNil)) (xVar 6)) (aCons (xSl1 (xCallT (call_listAll rfl) listAll_ok T.b_list (by decide +kernel) (aCons (xVar 2) aNil)) (xVar 7)) (aCons (xCallT (call_listAll rfl) listAll_ok T.b_list (by decide +kernel) (aCons (xVar 3) aNil)) aNil))))
      (ssCons (sIf (tCmp (op_eqD hu64) eqP_ok (xCallB call_lenAll lenAll_ok T.b_len (by decide +kernel) (aCons (xVar 3) aNil)) xInt) (ssOne sNo) ssNil)
      (ssOne (sRet (xCall (ok_folded_by T) arity_fun (hr0.mono (by decide)) T.g_folded_by (aCons (xCall (ok_kept T) arity_fun (hr0.mono (by decide)) T.g_kept (aCons (xVar 0) (aCons (xAdd (xAdd (xVar 1) (xVar 2)) (xVar 3)) aNil))) (aCons (xVar 1) (aCons (xVar 2) (aCons (xVar 3) (aCons (xVar 4) (aCons (xVar 5) aNil))))))))))))
def b_cut_tuples : SF := (evSeq (evAsg (.one 2) evNewT)
    (evSeq (evAsg (.one 3) (evArgs mkLst evNil))
    (evSeq (evFor (evSeqI (evVar 0)) (.one 4) (evSeq (evDrop (evMethK .dct sdP (evVar 2) (evCons (evSl none (some (evVar 1)) (evVar 4)) (evCons (evArgs lenAll (evCons (evVar 2) evNil)) evNil))))
    (evDrop (evMethK .lst appP (evVar 3) (evCons (evBin ixAll (evVar 2) (evSl none (some (evVar 1)) (evVar 4))) evNil)))))
    (evRet (evArgs mkTup (evCons (evArgs tupleAll (evCons (evVar 2) evNil)) (evCons (evVar 3) evNil)))))))
def f_cut_tuples : List SV → VH → EvR := evFun 2 3 b_cut_tuples
theorem sc_cut_tuples : FnScope ["some", "many", "found", "places", "one"] ["some", "many"] (defScope s_cut_tuples) := ⟨rfl, rfl, rfl, by decide +kernel, rfl, by decide +kernel, by decide +kernel⟩
theorem ok_cut_tuples (T : Txt K mg C base) : OkF C P w K mg base 1 (T.ad "cut_tuples") 2 f_cut_tuples :=
  ok_def T.d_cut_tuples sc_cut_tuples rfl rfl fun cdv A outer s H hr => by
    have S := sc_cut_tuples
    have hun := hr.un
    have hu9 : (A.deeper (envOfC "cut_tuples" (defScope s_cut_tuples) s.heap.objs.size (T.ad "cut_tuples") cdv)).units + 9 < cLine := by omega
    have hu10 : (A.deeper (envOfC "cut_tuples" (defScope s_cut_tuples) s.heap.objs.size (T.ad "cut_tuples") cdv)).units + 10 < cLine := by omega
    have hu64 : (A.deeper (envOfC "cut_tuples" (defScope s_cut_tuples) s.heap.objs.size (T.ad "cut_tuples") cdv)).units + 64 < cLine := by omega
    have hu66 : (A.deeper (envOfC "cut_tuples" (defScope s_cut_tuples) s.heap.objs.size (T.ad "cut_tuples") cdv)).units + 66 < cLine := by omega
    have hr0 := hr
    exact (ssCons (sSet 2 S.nd xNewT)
      (ssCons (sSet 3 S.nd (xLst aNil))
      (ssCons (sFor PassesOwn.never rfl (iSeq (xVar 0)) (gOne 4 S.nd) (ssCons (sExpr (xMeth (kd := .dct) PySem.F.plainAttrs_dict PySem.F.slot_dict_setdefault PySem.F.type_dict_setdefault (mt_dtSd hu9) sdP_ok (xVar 2) (aCons (xSl1 (xVar 4) (xVar 1)) (aCons (xCallB call_lenAll lenAll_ok T.b_len (by decide +kernel) (aCons (xVar 2) aNil)) aNil))))
      (ssOne (sExpr (xMeth (kd := .lst) PySem.F.plainAttrs_list PySem.F.slot_list_append PySem.F.type_list_append mt_append appP_ok (xVar 3) (aCons (xIx hu9 (xVar 2) (xSl1 (xVar 4) (xVar 1))) aNil))))))
      (ssOne (sRet (xTup (aCons (xCallT (call_tupAll rfl) tupleAll_ok T.b_tuple (by decide +kernel) (aCons (xVar 2) aNil)) (aCons (xVar 3) aNil))))))))
def b_cells_together : SF := (evSeq (evIfS (evTest (evBin eqP (evArgs lenAll (evCons (evVar 0) evNil)) (evC (.int 0)))) (evRet (evC .non)) evSkip)
    (evSeq (evAsg (.one 2) (evArgs mkLst evNil))
    (evSeq (evFor (evEnumI (evCons (evVar 1) evNil)) (.many [3, 4]) (evDrop (evMethK .lst appP (evVar 2) (evCons (evArgs f_put_together (evCons (evComp (evSeqI (evVar 0)) (.one 5) evYes (evBin ixAll (evVar 5) (evVar 3)) [5]) (evCons (evIf (evTest (evBin eqP (evVar 4) (evC (.str "count")))) (evC (.str "sum")) (evVar 4)) evNil))) evNil))))
    (evRet (evArgs tupleAll (evCons (evVar 2) evNil))))))
def f_cells_together : List SV → VH → EvR := evFun 2 4 b_cells_together
theorem sc_cells_together : FnScope ["cells", "ways", "found", "place", "way", "cell"] ["cells", "ways"] (defScope s_cells_together) := ⟨rfl, rfl, rfl, by decide +kernel, rfl, by decide +kernel, by decide +kernel⟩
theorem ok_cells_together (T : Txt K mg C base) : OkF C P w K mg base 5 (T.ad "cells_together") 2 f_cells_together :=
  ok_def T.d_cells_together sc_cells_together rfl rfl fun cdv A outer s H hr => by
    have S := sc_cells_together
    have hun := hr.un
    have hu9 : (A.deeper (envOfC "cells_together" (defScope s_cells_together) s.heap.objs.size (T.ad "cells_together") cdv)).units + 9 < cLine := by omega
    have hu10 : (A.deeper (envOfC "cells_together" (defScope s_cells_together) s.heap.objs.size (T.ad "cells_together") cdv)).units + 10 < cLine := by omega
    have hu64 : (A.deeper (envOfC "cells_together" (defScope s_cells_together) s.heap.objs.size (T.ad "cells_together") cdv)).units + 64 < cLine := by omega
    have hu66 : (A.deeper (envOfC "cells_together" (defScope s_cells_together) s.heap.objs.size (T.ad "cells_together") cdv)).units + 66 < cLine := by omega
    have hr0 := hr
    exact (ssCons (sIf (tCmp (op_eqD hu64) eqP_ok (xCallB call_lenAll lenAll_ok T.b_len (by decide +kernel) (aCons (xVar 0) aNil)) xInt) (ssOne (sRet xNon)) ssNil)
      (ssCons (sSet 2 S.nd (xLst aNil))
      (ssCons (sFor PassesOwn.never rfl (iEnum T.b_enumerate (aCons (xVar 1) aNil)) (gMany [3, 4] rfl (gsCons 3 S.nd (gsCons 4 S.nd gsNil))) (ssOne (sExpr (xMeth (kd := .lst) PySem.F.plainAttrs_list PySem.F.slot_list_append PySem.F.type_list_append mt_append appP_ok (xVar 2) (aCons (xCall (ok_put_together T) arity_fun (hr0.mono (by decide)) T.g_put_together (aCons (xLc [("cell", 5)] rfl S.nd (iSeq (xVar 0)) (by kernel_rfl) (fun _ _ _ _ _ => (gOne 5 S.nd)) (fun _ _ _ _ _ => tsNil) (fun _ _ _ _ _ => (xIx hu9 (xVar 5) (xVar 3))) (by decide)) (aCons (xIf (tCmp (op_eqD hu64) eqP_ok (xVar 4) xStr) xStr (xVar 4)) aNil))) aNil)))))
      (ssOne (sRet (xCallT (call_tupAll rfl) tupleAll_ok T.b_tuple (by decide +kernel) (aCons (xVar 2) aNil)))))))
def b_look_ways2 : SF := (evIfS (evOr (evTest (evBin neP (evArgs lenAll (evCons (evVar 1) evNil)) (evArgs lenAll (evCons (evBin ixAll (evVar 0) (evC (.int 2))) evNil)))) (evNot (evTest (evArgs allP (evCons (evComp (evSeqI (evVar 1)) (.one 2) evYes (evBin inAll (evVar 2) (evC (.tup ((["sum", "count", "least", "greatest"] : List Str).map SV.str)))) [2]) evNil))))) evNoS evSkip)
def f_look_ways2 : List SV → VH → EvR := evFun 2 1 b_look_ways2
theorem sc_look_ways2 : FnScope ["wide", "ways", "way"] ["wide", "ways"] (defScope s_look_ways2) := ⟨rfl, rfl, rfl, by decide +kernel, rfl, by decide +kernel, by decide +kernel⟩
theorem ok_look_ways2 (T : Txt K mg C base) : OkF C P w K mg base 1 (T.ad "look_ways2") 2 f_look_ways2 :=
  ok_def T.d_look_ways2 sc_look_ways2 rfl rfl fun cdv A outer s H hr => by
    have S := sc_look_ways2
    have hun := hr.un
    have hu9 : (A.deeper (envOfC "look_ways" (defScope s_look_ways2) s.heap.objs.size (T.ad "look_ways2") cdv)).units + 9 < cLine := by omega
    have hu10 : (A.deeper (envOfC "look_ways" (defScope s_look_ways2) s.heap.objs.size (T.ad "look_ways2") cdv)).units + 10 < cLine := by omega
    have hu64 : (A.deeper (envOfC "look_ways" (defScope s_look_ways2) s.heap.objs.size (T.ad "look_ways2") cdv)).units + 64 < cLine := by omega
    have hu66 : (A.deeper (envOfC "look_ways" (defScope s_look_ways2) s.heap.objs.size (T.ad "look_ways2") cdv)).units + 66 < cLine := by omega
    have hr0 := hr
    exact (ssOne (sIf (PW.pt (wOr (tCmp (op_neD hu64) neP_ok (xCallB call_lenAll lenAll_ok T.b_len (by decide +kernel) (aCons (xVar 1) aNil)) (xCallB call_lenAll lenAll_ok T.b_len (by decide +kernel) (aCons (xIx hu9 (xVar 0) xInt) aNil))) (wOr1 (tNotB (tVal (xCallB (cr_all rfl) allP_ok T.b_all (by decide +kernel) (aCons (xLc [("way", 2)] rfl S.nd (iSeq (xVar 1)) (by kernel_rfl) (fun _ _ _ _ _ => (gOne 2 S.nd)) (fun _ _ _ _ _ => tsNil) (fun _ _ _ _ _ => (xCmp (op_inAll hu66) inAll_ok (xVar 2) (xGTup (ys := ["sum", "count", "least", "greatest"]) T.c_ADDING.1 T.c_ADDING.2))) (by decide)) aNil))))))) (ssOne sNo) ssNil))
def b_added : SF := (evSeq (evDrop (evArgs f_look_ways2 (evCons (evVar 0) (evCons (evVar 1) evNil))))
    (evSeq (evAsg (.many [4, 5]) (evArgs f_cut_tuples (evCons (evBin ixAll (evVar 0) (evC (.int 3))) (evCons (evVar 3) evNil))))
    (evSeq (evAsg (.many [6, 7]) (evArgs f_cut_tuples (evCons (evComp (evSeqI (evBin ixAll (evVar 0) (evC (.int 4)))) (.many [14, 15]) evYes (evVar 14) [14, 15]) (evCons (evVar 2) evNil))))
    (evSeq (evAsg (.one 8) (evComp (evSeqI (evVar 6)) (.one 14) evYes (evComp (evSeqI (evVar 4)) (.one 16) evYes (evArgs mkLst evNil) [16]) [14]))
    (evSeq (evFor (evZipI (evCons (evVar 7) (evCons (evBin ixAll (evVar 0) (evC (.int 4))) evNil))) (.many [9, 10]) (evFor (evZipI (evCons (evVar 5) (evCons (evBin ixAll (evVar 10) (evC (.int 1))) evNil))) (.many [11, 12]) (evIfS (evTest (evBin notNP (evVar 12) (evC .non))) (evDrop (evMethK .lst appP (evBin ixAll (evBin ixAll (evVar 8) (evVar 9)) (evVar 11)) (evCons (evVar 12) evNil))) evSkip)))
    (evSeq (evAsg (.one 13) (evArgs mkLst evNil))
    (evSeq (evFor (evZipI (evCons (evVar 6) (evCons (evVar 8) evNil))) (.many [14, 10]) (evDrop (evMethK .lst appP (evVar 13) (evCons (evArgs mkTup (evCons (evVar 14) (evCons (evArgs tupleAll (evCons (evComp (evSeqI (evVar 10)) (.one 15) evYes (evArgs f_cells_together (evCons (evVar 15) (evCons (evVar 1) evNil))) [15]) evNil)) evNil))) evNil))))
    (evRet (evArgs mkTup (evCons (evSl none (some (evVar 2)) (evBin ixAll (evVar 0) (evC (.int 0)))) (evCons (evSl none (some (evVar 3)) (evBin ixAll (evVar 0) (evC (.int 1)))) (evCons (evBin ixAll (evVar 0) (evC (.int 2))) (evCons (evVar 4) (evCons (evArgs tupleAll (evCons (evVar 13) evNil)) evNil))))))))))))))
def f_added : List SV → VH → EvR := evFun 4 13 b_added
theorem sc_added : FnScope ["wide", "ways", "deep", "far", "heads", "across", "parts", "down", "boxes", "place", "row", "spot", "cell", "rows", "part", "cells", "head"] ["wide", "ways", "deep", "far"] (defScope s_added) := ⟨rfl, rfl, rfl, by decide +kernel, rfl, by decide +kernel, by decide +kernel⟩
theorem ok_added (T : Txt K mg C base) : OkF C P w K mg base 6 (T.ad "added") 4 f_added :=
  ok_def T.d_added sc_added rfl rfl fun cdv A outer s H hr => by
    have S := sc_added
    have hun := hr.un
    have hu9 : (A.deeper (envOfC "added" (defScope s_added) s.heap.objs.size (T.ad "added") cdv)).units + 9 < cLine := by omega
    have hu10 : (A.deeper (envOfC "added" (defScope s_added) s.heap.objs.size (T.ad "added") cdv)).units + 10 < cLine := by omega
    have hu64 : (A.deeper (envOfC "added" (defScope s_added) s.heap.objs.size (T.ad "added") cdv)).units + 64 < cLine := by omega
    have hu66 : (A.deeper (envOfC "added" (defScope s_added) s.heap.objs.size (T.ad "added") cdv)).units + 66 < cLine := by omega
    have hr0 := hr
    exact (ssCons (sExpr (xCall (ok_look_ways2 T) arity_fun (hr0.mono (by decide)) T.g_look_ways_along (aCons (xVar 0) (aCons (xVar 1) aNil))))
      (ssCons (sAsg (xCall (ok_cut_tuples T) arity_fun (hr0.mono (by decide)) T.g_cut_tuples (aCons (xIx hu9 (xVar 0) xInt) (aCons (xVar 3) aNil))) (gMany [4, 5] rfl (gsCons 4 S.nd (gsCons 5 S.nd gsNil))))
      (ssCons (sAsg (xCall (ok_cut_tuples T) arity_fun (hr0.mono (by decide)) T.g_cut_tuples (aCons (xLc [("part", 14), ("cells", 15)] rfl S.nd (iSeq (xIx hu9 (xVar 0) xInt)) (by kernel_rfl) (fun _ _ _ _ _ => (gMany [14, 15] rfl (gsCons 14 S.nd (gsCons 15 S.nd gsNil)))) (fun _ _ _ _ _ => tsNil) (fun _ _ _ _ _ => (xVar 14)) (by decide)) (aCons (xVar 2) aNil))) (gMany [6, 7] rfl (gsCons 6 S.nd (gsCons 7 S.nd gsNil))))
      (ssCons (sSetLc 8 [("part", 14)] rfl S.nd (iSeq (xVar 6)) (by kernel_rfl) (fun _ _ _ _ _ => (gOne 14 S.nd)) (fun _ _ _ _ _ => tsNil) (fun _ _ _ _ _ => (xLc [("head", 16)] rfl S.nd (iSeq (xVar 4)) (by kernel_rfl) (fun _ _ _ _ _ => (gOne 16 S.nd)) (fun _ _ _ _ _ => tsNil) (fun _ _ _ _ _ => (xLst aNil)) (by decide))) (by decide))
      (ssCons (sFor PassesOwn.never rfl (iZip T.b_zip (aCons (xVar 7) (aCons (xIx hu9 (xVar 0) xInt) aNil))) (gMany [9, 10] rfl (gsCons 9 S.nd (gsCons 10 S.nd gsNil))) (ssOne (sFor PassesOwn.never rfl (iZip T.b_zip (aCons (xVar 5) (aCons (xIx hu9 (xVar 10) xInt) aNil))) (gMany [11, 12] rfl (gsCons 11 S.nd (gsCons 12 S.nd gsNil))) (ssOne (sIf (tCmp op_notN notNP_ok (xVar 12) xNon) (ssOne (sExpr (xMeth (kd := .lst) PySem.F.plainAttrs_list PySem.F.slot_list_append PySem.F.type_list_append mt_append appP_ok (xIx hu9 (xIx hu9 (xVar 8) (xVar 9)) (xVar 11)) (aCons (xVar 12) aNil)))) ssNil)))))
      (ssCons (sSet 13 S.nd (xLst aNil))
      (ssCons (sFor PassesOwn.never rfl (iZip T.b_zip (aCons (xVar 6) (aCons (xVar 8) aNil))) (gMany [14, 10] rfl (gsCons 14 S.nd (gsCons 10 S.nd gsNil))) (ssOne (sExpr (xMeth (kd := .lst) PySem.F.plainAttrs_list PySem.F.slot_list_append PySem.F.type_list_append mt_append appP_ok (xVar 13) (aCons (xTup (aCons (xVar 14) (aCons (xCallT (call_tupAll rfl) tupleAll_ok T.b_tuple (by decide +kernel) (aCons (xLc [("cells", 15)] rfl S.nd (iSeq (xVar 10)) (by kernel_rfl) (fun _ _ _ _ _ => (gOne 15 S.nd)) (fun _ _ _ _ _ => tsNil) (fun _ _ _ _ _ => (xCall (ok_cells_together T) arity_fun (hr0.mono (by decide)) T.g_cells_together (aCons (xVar 15) (aCons (xVar 1) aNil)))) (by decide)) aNil)) aNil))) aNil)))))
      (ssOne (sRet (xTup (aCons (xSl1 (xIx hu9 (xVar 0) xInt) (xVar 2)) (aCons (xSl1 (xIx hu9 (xVar 0) xInt) (xVar 3)) (aCons (xIx hu9 (xVar 0) xInt) (aCons (xVar 4) (aCons (xCallT (call_tupAll rfl) tupleAll_ok T.b_tuple (by decide +kernel) (aCons (xVar 13) aNil)) aNil)))))))))))))))
def b_margins : SF := (evSeq (evPar [2, 3] (evCons (evArgs lenAll (evCons (evBin ixAll (evVar 0) (evC (.int 0))) evNil)) (evCons (evArgs lenAll (evCons (evBin ixAll (evVar 0) (evC (.int 1))) evNil)) evNil)))
    (evRet (evArgs mkTup (evCons (evArgs f_added (evCons (evVar 0) (evCons (evVar 1) (evCons (evVar 2) (evCons (evC (.int 0)) evNil))))) (evCons (evArgs f_added (evCons (evVar 0) (evCons (evVar 1) (evCons (evC (.int 0)) (evCons (evVar 3) evNil))))) (evCons (evArgs f_added (evCons (evVar 0) (evCons (evVar 1) (evCons (evC (.int 0)) (evCons (evC (.int 0)) evNil))))) evNil))))))
def f_margins : List SV → VH → EvR := evFun 2 2 b_margins
theorem sc_margins : FnScope ["wide", "ways", "deep", "far"] ["wide", "ways"] (defScope s_margins) := ⟨rfl, rfl, rfl, by decide +kernel, rfl, by decide +kernel, by decide +kernel⟩
theorem ok_margins (T : Txt K mg C base) : OkF C P w K mg base 7 (T.ad "margins") 2 f_margins :=
  ok_def T.d_margins sc_margins rfl rfl fun cdv A outer s H hr => by
    have S := sc_margins
    have hun := hr.un
    have hu9 : (A.deeper (envOfC "margins" (defScope s_margins) s.heap.objs.size (T.ad "margins") cdv)).units + 9 < cLine := by omega
    have hu10 : (A.deeper (envOfC "margins" (defScope s_margins) s.heap.objs.size (T.ad "margins") cdv)).units + 10 < cLine := by omega
    have hu64 : (A.deeper (envOfC "margins" (defScope s_margins) s.heap.objs.size (T.ad "margins") cdv)).units + 64 < cLine := by omega
    have hu66 : (A.deeper (envOfC "margins" (defScope s_margins) s.heap.objs.size (T.ad "margins") cdv)).units + 66 < cLine := by omega
    have hr0 := hr
    exact (ssCons (sPar2 2 3 rfl S.nd (by decide) (aCons (xCallB call_lenAll lenAll_ok T.b_len (by decide +kernel) (aCons (xIx hu9 (xVar 0) xInt) aNil)) (aCons (xCallB call_lenAll lenAll_ok T.b_len (by decide +kernel) (aCons (xIx hu9 (xVar 0) xInt) aNil)) aNil)))
      (ssOne (sRet (xTup (aCons (xCall (ok_added T) arity_fun (hr0.mono (by decide)) T.g_added (aCons (xVar 0) (aCons (xVar 1) (aCons (xVar 2) (aCons xInt aNil))))) (aCons (xCall (ok_added T) arity_fun (hr0.mono (by decide)) T.g_added (aCons (xVar 0) (aCons (xVar 1) (aCons xInt (aCons (xVar 3) aNil))))) (aCons (xCall (ok_added T) arity_fun (hr0.mono (by decide)) T.g_added (aCons (xVar 0) (aCons (xVar 1) (aCons xInt (aCons xInt aNil))))) aNil)))))))
def b_holds : SF := (evSeq (evIfS (evTest (evBin eqP (evVar 1) (evC (.str "below")))) (evRet (evArgs f_stands_ahead (evCons (evVar 0) (evCons (evVar 2) evNil)))) evSkip)
    (evSeq (evIfS (evTest (evBin eqP (evVar 1) (evC (.str "above")))) (evRet (evArgs f_stands_ahead (evCons (evVar 2) (evCons (evVar 0) evNil)))) evSkip)
    (evRet (evBin eqP (evBin eqP (evVar 0) (evVar 2)) (evBin eqP (evVar 1) (evC (.str "is")))))))
def f_holds : List SV → VH → EvR := evFun 3 0 b_holds
theorem sc_holds : FnScope ["value", "word", "other"] ["value", "word", "other"] (defScope s_holds) := ⟨rfl, rfl, rfl, by decide +kernel, rfl, by decide +kernel, by decide +kernel⟩
theorem ok_holds (T : Txt K mg C base) : OkF C P w K mg base 3 (T.ad "holds") 3 f_holds :=
  ok_def T.d_holds sc_holds rfl rfl fun cdv A outer s H hr => by
    have S := sc_holds
    have hun := hr.un
    have hu9 : (A.deeper (envOfC "holds" (defScope s_holds) s.heap.objs.size (T.ad "holds") cdv)).units + 9 < cLine := by omega
    have hu10 : (A.deeper (envOfC "holds" (defScope s_holds) s.heap.objs.size (T.ad "holds") cdv)).units + 10 < cLine := by omega
    have hu64 : (A.deeper (envOfC "holds" (defScope s_holds) s.heap.objs.size (T.ad "holds") cdv)).units + 64 < cLine := by omega
    have hu66 : (A.deeper (envOfC "holds" (defScope s_holds) s.heap.objs.size (T.ad "holds") cdv)).units + 66 < cLine := by omega
    have hr0 := hr
    exact (ssCons (sIf (tCmp (op_eqD hu64) eqP_ok (xVar 1) (xGStr T.c_BELOW)) (ssOne (sRet (xCall (ok_stands_ahead T) arity_fun (hr0.mono (by decide)) T.g_stands_ahead (aCons (xVar 0) (aCons (xVar 2) aNil))))) ssNil)
      (ssCons (sIf (tCmp (op_eqD hu64) eqP_ok (xVar 1) (xGStr T.c_ABOVE)) (ssOne (sRet (xCall (ok_stands_ahead T) arity_fun (hr0.mono (by decide)) T.g_stands_ahead (aCons (xVar 2) (aCons (xVar 0) aNil))))) ssNil)
      (ssOne (sRet (xCmp (op_eqD hu64) eqP_ok (xCmp (op_eqD hu64) eqP_ok (xVar 0) (xVar 2)) (xCmp (op_eqD hu64) eqP_ok (xVar 1) (xGStr T.c_IS)))))))
def b_look_columns : SF := (evFor (evSeqI (evVar 1)) (.one 2) (evIfS (evTest (evBin notInAll (evVar 2) (evVar 0))) evNoS evSkip))
def f_look_columns : List SV → VH → EvR := evFun 2 1 b_look_columns
theorem sc_look_columns : FnScope ["columns", "names", "name"] ["columns", "names"] (defScope s_look_columns) := ⟨rfl, rfl, rfl, by decide +kernel, rfl, by decide +kernel, by decide +kernel⟩
theorem ok_look_columns (T : Txt K mg C base) : OkF C P w K mg base 1 (T.ad "look_columns") 2 f_look_columns :=
  ok_def T.d_look_columns sc_look_columns rfl rfl fun cdv A outer s H hr => by
    have S := sc_look_columns
    have hun := hr.un
    have hu9 : (A.deeper (envOfC "look_columns" (defScope s_look_columns) s.heap.objs.size (T.ad "look_columns") cdv)).units + 9 < cLine := by omega
    have hu10 : (A.deeper (envOfC "look_columns" (defScope s_look_columns) s.heap.objs.size (T.ad "look_columns") cdv)).units + 10 < cLine := by omega
    have hu64 : (A.deeper (envOfC "look_columns" (defScope s_look_columns) s.heap.objs.size (T.ad "look_columns") cdv)).units + 64 < cLine := by omega
    have hu66 : (A.deeper (envOfC "look_columns" (defScope s_look_columns) s.heap.objs.size (T.ad "look_columns") cdv)).units + 66 < cLine := by omega
    have hr0 := hr
    exact (ssOne (sFor PassesOwn.never rfl (iSeq (xVar 1)) (gOne 2 S.nd) (ssOne (sIf (tCmp (op_notInAll hu66) notInAll_ok (xVar 2) (xVar 0)) (ssOne sNo) ssNil))))
def b_look_words : SF := (evFor (evSeqI (evVar 0)) (.many [1, 2, 3]) (evIfS (evTest (evBin notInAll (evVar 2) (evArgs mkTup (evCons (evC (.str "is")) (evCons (evC (.str "not")) (evCons (evC (.str "below")) (evCons (evC (.str "above")) evNil))))))) evNoS evSkip))
def f_look_words : List SV → VH → EvR := evFun 1 3 b_look_words
theorem sc_look_words : FnScope ["conditions", "name", "word", "value"] ["conditions"] (defScope s_look_words) := ⟨rfl, rfl, rfl, by decide +kernel, rfl, by decide +kernel, by decide +kernel⟩
theorem ok_look_words (T : Txt K mg C base) : OkF C P w K mg base 1 (T.ad "look_words") 1 f_look_words :=
  ok_def T.d_look_words sc_look_words rfl rfl fun cdv A outer s H hr => by
    have S := sc_look_words
    have hun := hr.un
    have hu9 : (A.deeper (envOfC "look_words" (defScope s_look_words) s.heap.objs.size (T.ad "look_words") cdv)).units + 9 < cLine := by omega
    have hu10 : (A.deeper (envOfC "look_words" (defScope s_look_words) s.heap.objs.size (T.ad "look_words") cdv)).units + 10 < cLine := by omega
    have hu64 : (A.deeper (envOfC "look_words" (defScope s_look_words) s.heap.objs.size (T.ad "look_words") cdv)).units + 64 < cLine := by omega
    have hu66 : (A.deeper (envOfC "look_words" (defScope s_look_words) s.heap.objs.size (T.ad "look_words") cdv)).units + 66 < cLine := by omega
    have hr0 := hr
    exact (ssOne (sFor PassesOwn.never rfl (iSeq (xVar 0)) (gMany [1, 2, 3] rfl (gsCons 1 S.nd (gsCons 2 S.nd (gsCons 3 S.nd gsNil)))) (ssOne (sIf (tCmp (op_notInAll hu66) notInAll_ok (xVar 2) (xTup (aCons (xGStr T.c_IS) (aCons (xGStr T.c_NOT) (aCons (xGStr T.c_BELOW) (aCons (xGStr T.c_ABOVE) aNil)))))) (ssOne sNo) ssNil))))
def b_looked : SF := (evRet (evArgs allP (evCons (evComp (evSeqI (evVar 2)) (.many [3, 4, 5]) evYes (evArgs f_holds (evCons (evBin ixAll (evVar 1) (evMethK .tup idxP (evVar 0) (evCons (evVar 3) evNil))) (evCons (evVar 4) (evCons (evVar 5) evNil)))) [3, 4, 5]) evNil)))
def f_looked : List SV → VH → EvR := evFun 3 3 b_looked
theorem sc_looked : FnScope ["columns", "row", "conditions", "name", "word", "value"] ["columns", "row", "conditions"] (defScope s_looked) := ⟨rfl, rfl, rfl, by decide +kernel, rfl, by decide +kernel, by decide +kernel⟩
theorem ok_looked (T : Txt K mg C base) : OkF C P w K mg base 4 (T.ad "looked") 3 f_looked :=
  ok_def T.d_looked sc_looked rfl rfl fun cdv A outer s H hr => by
    have S := sc_looked
    have hun := hr.un
    have hu9 : (A.deeper (envOfC "looked" (defScope s_looked) s.heap.objs.size (T.ad "looked") cdv)).units + 9 < cLine := by omega
    have hu10 : (A.deeper (envOfC "looked" (defScope s_looked) s.heap.objs.size (T.ad "looked") cdv)).units + 10 < cLine := by omega
    have hu64 : (A.deeper (envOfC "looked" (defScope s_looked) s.heap.objs.size (T.ad "looked") cdv)).units + 64 < cLine := by omega
    have hu66 : (A.deeper (envOfC "looked" (defScope s_looked) s.heap.objs.size (T.ad "looked") cdv)).units + 66 < cLine := by omega
    have hr0 := hr
    exact (ssOne (sRet (xCallB (cr_all rfl) allP_ok T.b_all (by decide +kernel) (aCons (xLc [("name", 3), ("word", 4), ("value", 5)] rfl S.nd (iSeq (xVar 2)) (by kernel_rfl) (fun _ _ _ _ _ => (gMany [3, 4, 5] rfl (gsCons 3 S.nd (gsCons 4 S.nd (gsCons 5 S.nd gsNil))))) (fun _ _ _ _ _ => tsNil) (fun _ _ _ _ _ => (xCall (ok_holds T) arity_fun (hr0.mono (by decide)) T.g_holds (aCons (xIx hu9 (xVar 1) (xMeth (kd := .tup) PySem.F.plainAttrs_tuple PySem.F.slot_tuple_index PySem.F.type_tuple_index (mt_idxN hu66) idxP_ok (xVar 0) (aCons (xVar 3) aNil))) (aCons (xVar 4) (aCons (xVar 5) aNil))))) (by decide)) aNil))))
def b_rows_where : SF := (evSeq (evDrop (evArgs f_look_columns (evCons (evBin ixAll (evVar 0) (evC (.int 0))) (evCons (evComp (evSeqI (evVar 1)) (.many [2, 3, 4]) evYes (evVar 2) [2, 3, 4]) evNil))))
    (evSeq (evDrop (evArgs f_look_words (evCons (evVar 1) evNil)))
    (evRet (evComp (evEnumI (evCons (evBin ixAll (evVar 0) (evC (.int 1))) evNil)) (.many [5, 6]) (evTest (evArgs f_looked (evCons (evBin ixAll (evVar 0) (evC (.int 0))) (evCons (evVar 6) (evCons (evVar 1) evNil))))) (evVar 5) [5, 6]))))
def f_rows_where : List SV → VH → EvR := evFun 2 5 b_rows_where
theorem sc_rows_where : FnScope ["table", "conditions", "name", "word", "value", "number", "row"] ["table", "conditions"] (defScope s_rows_where) := ⟨rfl, rfl, rfl, by decide +kernel, rfl, by decide +kernel, by decide +kernel⟩
theorem ok_rows_where (T : Txt K mg C base) : OkF C P w K mg base 5 (T.ad "rows_where") 2 f_rows_where :=
  ok_def T.d_rows_where sc_rows_where rfl rfl fun cdv A outer s H hr => by
    have S := sc_rows_where
    have hun := hr.un
    have hu9 : (A.deeper (envOfC "rows_where" (defScope s_rows_where) s.heap.objs.size (T.ad "rows_where") cdv)).units + 9 < cLine := by omega
    have hu10 : (A.deeper (envOfC "rows_where" (defScope s_rows_where) s.heap.objs.size (T.ad "rows_where") cdv)).units + 10 < cLine := by omega
    have hu64 : (A.deeper (envOfC "rows_where" (defScope s_rows_where) s.heap.objs.size (T.ad "rows_where") cdv)).units + 64 < cLine := by omega
    have hu66 : (A.deeper (envOfC "rows_where" (defScope s_rows_where) s.heap.objs.size (T.ad "rows_where") cdv)).units + 66 < cLine := by omega
    have hr0 := hr
    exact (ssCons (sExpr (xCall (ok_look_columns T) arity_fun (hr0.mono (by decide)) T.g_look_columns (aCons (xIx hu9 (xVar 0) xInt) (aCons (xLc [("name", 2), ("word", 3), ("value", 4)] rfl S.nd (iSeq (xVar 1)) (by kernel_rfl) (fun _ _ _ _ _ => (gMany [2, 3, 4] rfl (gsCons 2 S.nd (gsCons 3 S.nd (gsCons 4 S.nd gsNil))))) (fun _ _ _ _ _ => tsNil) (fun _ _ _ _ _ => (xVar 2)) (by decide)) aNil))))
      (ssCons (sExpr (xCall (ok_look_words T) arity_fun (hr0.mono (by decide)) T.g_look_words (aCons (xVar 1) aNil)))
      (ssOne (sRet (xLc [("number", 5), ("row", 6)] rfl S.nd (iEnum T.b_enumerate (aCons (xIx hu9 (xVar 0) xInt) aNil)) (by kernel_rfl) (fun _ _ _ _ _ => (gMany [5, 6] rfl (gsCons 5 S.nd (gsCons 6 S.nd gsNil)))) (fun _ _ _ _ _ => tsOne (tVal (xCall (ok_looked T) arity_fun (hr0.mono (by decide)) T.g_looked (aCons (xIx hu9 (xVar 0) xInt) (aCons (xVar 6) (aCons (xVar 1) aNil)))))) (fun _ _ _ _ _ => (xVar 5)) (by decide))))))
def b_look_question : SF := (evSeq (evAsg (.many [2, 3, 4]) (evVar 1))
    (evSeq (evDrop (evArgs f_look_columns (evCons (evBin ixAll (evVar 0) (evC (.int 0))) (evCons (evBin addV (evArgs mkLst (evCons (evVar 3) evNil)) (evComp (evSeqI (evVar 4)) (.many [5, 6, 7]) evYes (evVar 5) [5, 6, 7])) evNil))))
    (evSeq (evIfS (evAnd (evTest (evBin neP (evVar 2) (evC (.str "all")))) (evTest (evBin notInAll (evVar 2) (evC (.tup ((["first", "last", "sum", "count", "least", "greatest", "unlike"] : List Str).map SV.str)))))) evNoS evSkip)
    (evDrop (evArgs f_look_words (evCons (evVar 4) evNil))))))
def f_look_question : List SV → VH → EvR := evFun 2 6 b_look_question
theorem sc_look_question : FnScope ["table", "question", "word", "name", "conditions", "one", "how", "value"] ["table", "question"] (defScope s_look_question) := ⟨rfl, rfl, rfl, by decide +kernel, rfl, by decide +kernel, by decide +kernel⟩
theorem ok_look_question (T : Txt K mg C base) : OkF C P w K mg base 2 (T.ad "look_question") 2 f_look_question :=
  ok_def T.d_look_question sc_look_question rfl rfl fun cdv A outer s H hr => by
    have S := sc_look_question
    have hun := hr.un
    have hu9 : (A.deeper (envOfC "look_question" (defScope s_look_question) s.heap.objs.size (T.ad "look_question") cdv)).units + 9 < cLine := by omega
    have hu10 : (A.deeper (envOfC "look_question" (defScope s_look_question) s.heap.objs.size (T.ad "look_question") cdv)).units + 10 < cLine := by omega
    have hu64 : (A.deeper (envOfC "look_question" (defScope s_look_question) s.heap.objs.size (T.ad "look_question") cdv)).units + 64 < cLine := by omega
    have hu66 : (A.deeper (envOfC "look_question" (defScope s_look_question) s.heap.objs.size (T.ad "look_question") cdv)).units + 66 < cLine := by omega
    have hr0 := hr
    exact (ssCons (sAsg (xVar 1) (gMany [2, 3, 4] rfl (gsCons 2 S.nd (gsCons 3 S.nd (gsCons 4 S.nd gsNil)))))
      (ssCons (sExpr (xCall (ok_look_columns T) arity_fun (hr0.mono (by decide)) T.g_look_columns (aCons (xIx hu9 (xVar 0) xInt) (aCons (xAdd (xLst (aCons (xVar 3) aNil)) (xLc [("one", 5), ("how", 6), ("value", 7)] rfl S.nd (iSeq (xVar 4)) (by kernel_rfl) (fun _ _ _ _ _ => (gMany [5, 6, 7] rfl (gsCons 5 S.nd (gsCons 6 S.nd (gsCons 7 S.nd gsNil))))) (fun _ _ _ _ _ => tsNil) (fun _ _ _ _ _ => (xVar 5)) (by decide))) aNil))))
      (ssCons (sIf (PW.pt (wAnd (tCmp (op_neD hu64) neP_ok (xVar 2) (xGStr T.c_ALL)) (wAnd1 (tCmp (op_notInAll hu66) notInAll_ok (xVar 2) (xGTup (ys := ["first", "last", "sum", "count", "least", "greatest", "unlike"]) T.c_WAYS.1 T.c_WAYS.2))))) (ssOne sNo) ssNil)
      (ssOne (sExpr (xCall (ok_look_words T) arity_fun (hr0.mono (by decide)) T.g_look_words (aCons (xVar 4) aNil)))))))
def b_each_once : SF := (evRet (evArgs listAll (evCons (evArgs dictP (evCons (evComp (evSeqI (evVar 0)) (.one 1) evYes (evArgs mkTup (evCons (evVar 1) (evCons (evC (.bl true)) evNil))) [1]) evNil)) evNil)))
def f_each_once : List SV → VH → EvR := evFun 1 1 b_each_once
theorem sc_each_once : FnScope ["values", "value"] ["values"] (defScope s_each_once) := ⟨rfl, rfl, rfl, by decide +kernel, rfl, by decide +kernel, by decide +kernel⟩
theorem ok_each_once (T : Txt K mg C base) : OkF C P w K mg base 1 (T.ad "each_once") 1 f_each_once :=
  ok_def T.d_each_once sc_each_once rfl rfl fun cdv A outer s H hr => by
    have S := sc_each_once
    have hun := hr.un
    have hu9 : (A.deeper (envOfC "each_once" (defScope s_each_once) s.heap.objs.size (T.ad "each_once") cdv)).units + 9 < cLine := by omega
    have hu10 : (A.deeper (envOfC "each_once" (defScope s_each_once) s.heap.objs.size (T.ad "each_once") cdv)).units + 10 < cLine := by omega
    have hu64 : (A.deeper (envOfC "each_once" (defScope s_each_once) s.heap.objs.size (T.ad "each_once") cdv)).units + 64 < cLine := by omega
    have hu66 : (A.deeper (envOfC "each_once" (defScope s_each_once) s.heap.objs.size (T.ad "each_once") cdv)).units + 66 < cLine := by omega
    have hr0 := hr
    exact (ssOne (sRet (xCallT (call_listAll rfl) listAll_ok T.b_list (by decide +kernel) (aCons (xCallT (call_dictAll rfl hu10) dictP_ok T.b_dict (by decide +kernel) (aCons (xLc [("value", 1)] rfl S.nd (iSeq (xVar 0)) (by kernel_rfl) (fun _ _ _ _ _ => (gOne 1 S.nd)) (fun _ _ _ _ _ => tsNil) (fun _ _ _ _ _ => (xTup (aCons (xVar 1) (aCons xBl aNil)))) (by decide)) aNil)) aNil))))
def b_answer : SF := (evSeq (evIfS (evTest (evBin eqP (evBin ixAll (evVar 1) (evC (.int 0))) (evC (.str "rows")))) (evRet (evComp (evSeqI (evArgs f_rows_where (evCons (evVar 0) (evCons (evBin ixAll (evVar 1) (evC (.int 1))) evNil)))) (.one 7) evYes (evBin ixAll (evBin ixAll (evVar 0) (evC (.int 1))) (evVar 7)) [7])) evSkip)
    (evSeq (evDrop (evArgs f_look_question (evCons (evVar 0) (evCons (evVar 1) evNil))))
    (evSeq (evAsg (.many [2, 3, 4]) (evVar 1))
    (evSeq (evAsg (.one 5) (evMethK .tup idxP (evBin ixAll (evVar 0) (evC (.int 0))) (evCons (evVar 3) evNil)))
    (evSeq (evAsg (.one 6) (evComp (evSeqI (evArgs f_rows_where (evCons (evVar 0) (evCons (evVar 4) evNil)))) (.one 7) evYes (evBin ixAll (evBin ixAll (evBin ixAll (evVar 0) (evC (.int 1))) (evVar 7)) (evVar 5)) [7]))
    (evSeq (evIfS (evTest (evBin eqP (evVar 2) (evC (.str "all")))) (evRet (evArgs f_risen (evCons (evArgs f_each_once (evCons (evVar 6) evNil)) evNil))) evSkip)
    (evRet (evIf (evTest (evBin (cmpI fun i j => decide (j < i)) (evArgs lenAll (evCons (evVar 6) evNil)) (evC (.int 0)))) (evArgs f_put_together (evCons (evVar 6) (evCons (evVar 2) evNil))) (evC .non)))))))))
def f_answer : List SV → VH → EvR := evFun 2 6 b_answer
theorem sc_answer : FnScope ["table", "question", "word", "name", "conditions", "place", "some", "number"] ["table", "question"] (defScope s_answer) := ⟨rfl, rfl, rfl, by decide +kernel, rfl, by decide +kernel, by decide +kernel⟩
theorem ok_answer (T : Txt K mg C base) : OkF C P w K mg base 6 (T.ad "answer") 2 f_answer :=
  ok_def T.d_answer sc_answer rfl rfl fun cdv A outer s H hr => by
    have S := sc_answer
    have hun := hr.un
    have hu9 : (A.deeper (envOfC "answer" (defScope s_answer) s.heap.objs.size (T.ad "answer") cdv)).units + 9 < cLine := by omega
    have hu10 : (A.deeper (envOfC "answer" (defScope s_answer) s.heap.objs.size (T.ad "answer") cdv)).units + 10 < cLine := by omega
    have hu64 : (A.deeper (envOfC "answer" (defScope s_answer) s.heap.objs.size (T.ad "answer") cdv)).units + 64 < cLine := by omega
    have hu66 : (A.deeper (envOfC "answer" (defScope s_answer) s.heap.objs.size (T.ad "answer") cdv)).units + 66 < cLine := by omega
    have hr0 := hr
    exact (ssCons (sIf (tCmp (op_eqD hu64) eqP_ok (xIx hu9 (xVar 1) xInt) (xGStr T.c_ROWS)) (ssOne (sRet (xLc [("number", 7)] rfl S.nd (iSeq (xCall (ok_rows_where T) arity_fun (hr0.mono (by decide)) T.g_rows_where (aCons (xVar 0) (aCons (xIx hu9 (xVar 1) xInt) aNil)))) (by kernel_rfl) (fun _ _ _ _ _ => (gOne 7 S.nd)) (fun _ _ _ _ _ => tsNil) (fun _ _ _ _ _ => (xIx hu9 (xIx hu9 (xVar 0) xInt) (xVar 7))) (by decide)))) ssNil)
      (ssCons (sExpr (xCall (ok_look_question T) arity_fun (hr0.mono (by decide)) T.g_look_question (aCons (xVar 0) (aCons (xVar 1) aNil))))
      (ssCons (sAsg (xVar 1) (gMany [2, 3, 4] rfl (gsCons 2 S.nd (gsCons 3 S.nd (gsCons 4 S.nd gsNil)))))
      (ssCons (sSet 5 S.nd (xMeth (kd := .tup) PySem.F.plainAttrs_tuple PySem.F.slot_tuple_index PySem.F.type_tuple_index (mt_idxN hu66) idxP_ok (xIx hu9 (xVar 0) xInt) (aCons (xVar 3) aNil)))
      (ssCons (sSetLc 6 [("number", 7)] rfl S.nd (iSeq (xCall (ok_rows_where T) arity_fun (hr0.mono (by decide)) T.g_rows_where (aCons (xVar 0) (aCons (xVar 4) aNil)))) (by kernel_rfl) (fun _ _ _ _ _ => (gOne 7 S.nd)) (fun _ _ _ _ _ => tsNil) (fun _ _ _ _ _ => (xIx hu9 (xIx hu9 (xIx hu9 (xVar 0) xInt) (xVar 7)) (xVar 5))) (by decide))
      (ssCons (sIf (tCmp (op_eqD hu64) eqP_ok (xVar 2) (xGStr T.c_ALL)) (ssOne (sRet (xCall (ok_risen T) arity_fun (hr0.mono (by decide)) T.g_risen (aCons (xCall (ok_each_once T) arity_fun (hr0.mono (by decide)) T.g_each_once (aCons (xVar 6) aNil)) aNil)))) ssNil)
      (ssOne (sRet (xIf (tCmp op_gt cmpI_ok (xCallB call_lenAll lenAll_ok T.b_len (by decide +kernel) (aCons (xVar 6) aNil)) xInt) (xCall (ok_put_together T) arity_fun (hr0.mono (by decide)) T.g_put_together (aCons (xVar 6) (aCons (xVar 2) aNil))) xNon)))))))))
def b_answer_wide : SF := (evRet (evArgs f_answer (evCons (evArgs f_unfolded (evCons (evVar 0) evNil)) (evCons (evVar 1) evNil))))
def f_answer_wide : List SV → VH → EvR := evFun 2 0 b_answer_wide
theorem sc_answer_wide : FnScope ["wide", "question"] ["wide", "question"] (defScope s_answer_wide) := ⟨rfl, rfl, rfl, by decide +kernel, rfl, by decide +kernel, by decide +kernel⟩
theorem ok_answer_wide (T : Txt K mg C base) : OkF C P w K mg base 7 (T.ad "answer_wide") 2 f_answer_wide :=
  ok_def T.d_answer_wide sc_answer_wide rfl rfl fun cdv A outer s H hr => by
    have S := sc_answer_wide
    have hun := hr.un
    have hu9 : (A.deeper (envOfC "answer_wide" (defScope s_answer_wide) s.heap.objs.size (T.ad "answer_wide") cdv)).units + 9 < cLine := by omega
    have hu10 : (A.deeper (envOfC "answer_wide" (defScope s_answer_wide) s.heap.objs.size (T.ad "answer_wide") cdv)).units + 10 < cLine := by omega
    have hu64 : (A.deeper (envOfC "answer_wide" (defScope s_answer_wide) s.heap.objs.size (T.ad "answer_wide") cdv)).units + 64 < cLine := by omega
    have hu66 : (A.deeper (envOfC "answer_wide" (defScope s_answer_wide) s.heap.objs.size (T.ad "answer_wide") cdv)).units + 66 < cLine := by omega
    have hr0 := hr
    exact (ssOne (sRet (xCall (ok_answer T) arity_fun (hr0.mono (by decide)) T.g_answer (aCons (xCall (ok_unfolded T) arity_fun (hr0.mono (by decide)) T.g_unfolded (aCons (xVar 0) aNil)) (aCons (xVar 1) aNil)))))
def b_K_init : SF := (evSeq (evSetF "table" (evVar 0) (evArgs mkTup (evCons (evArgs tupleAll (evCons (evVar 1) evNil)) (evCons (evArgs mkTup evNil) evNil))))
    (evSeq (evDrop (evArgs f_folded_by (evCons (evFld "table" (evVar 0)) (evCons (evVar 2) (evCons (evVar 3) (evCons (evVar 4) (evCons (evVar 5) (evCons (evVar 6) evNil))))))))
    (evSeq (evSetF "told" (evVar 0) (evArgs mkTup (evCons (evArgs tupleAll (evCons (evVar 2) evNil)) (evCons (evArgs tupleAll (evCons (evVar 3) evNil)) (evCons (evArgs tupleAll (evCons (evVar 4) evNil)) (evCons (evArgs tupleAll (evCons (evVar 5) evNil)) (evCons (evVar 6) evNil)))))))
    (evSeq (evSetF "places" (evVar 0) (evComp (evSeqI (evArgs mkTup (evCons (evVar 2) (evCons (evVar 3) (evCons (evVar 4) evNil))))) (.one 7) evYes (evArgs f_places_of (evCons (evFld "table" (evVar 0)) (evCons (evVar 7) evNil))) [7]))
    (evSeq (evSetF "coming" (evVar 0) (evC (.int 0)))
    (evSeq (evSetF "rows" (evVar 0) evNewK)
    (evSeq (evSetF "by_place" (evVar 0) evNewT)
    (evSeq (evSetF "cells" (evVar 0) evNewT)
    (evSetF "past" (evVar 0) (evArgs mkLst evNil))))))))))
def f_K_init : List SV → VH → EvR := evFun 7 1 b_K_init
theorem sc_K_init : FnScope ["self", "columns", "key", "names", "values", "ways", "order", "some"] ["self", "columns", "key", "names", "values", "ways", "order"] (defScope s_K_init) := ⟨rfl, rfl, rfl, by decide +kernel, rfl, by decide +kernel, by decide +kernel⟩
theorem ok_K_init (T : Txt K mg C base) : OkF C P w K mg base 7 (T.ad "K_init") 7 f_K_init :=
  ok_def T.d_K_init sc_K_init rfl rfl fun cdv A outer s H hr => by
    have S := sc_K_init
    have hun := hr.un
    have hu9 : (A.deeper (envOfC "Keeper.__init__" (defScope s_K_init) s.heap.objs.size (T.ad "K_init") cdv)).units + 9 < cLine := by omega
    have hu10 : (A.deeper (envOfC "Keeper.__init__" (defScope s_K_init) s.heap.objs.size (T.ad "K_init") cdv)).units + 10 < cLine := by omega
    have hu64 : (A.deeper (envOfC "Keeper.__init__" (defScope s_K_init) s.heap.objs.size (T.ad "K_init") cdv)).units + 64 < cLine := by omega
    have hu66 : (A.deeper (envOfC "Keeper.__init__" (defScope s_K_init) s.heap.objs.size (T.ad "K_init") cdv)).units + 66 < cLine := by omega
    have hr0 := hr
    exact (ssCons (sSetF (xVar 0) (xTup (aCons (xCallT (call_tupAll rfl) tupleAll_ok T.b_tuple (by decide +kernel) (aCons (xVar 1) aNil)) (aCons (xTup aNil) aNil))) T.cl T.n_table)
      (ssCons (sExpr (xCall (ok_folded_by T) arity_fun (hr0.mono (by decide)) T.g_folded_by (aCons (xFld (xVar 0) T.cl T.n_table) (aCons (xVar 2) (aCons (xVar 3) (aCons (xVar 4) (aCons (xVar 5) (aCons (xVar 6) aNil))))))))
      (ssCons (sSetF (xVar 0) (xTup (aCons (xCallT (call_tupAll rfl) tupleAll_ok T.b_tuple (by decide +kernel) (aCons (xVar 2) aNil)) (aCons (xCallT (call_tupAll rfl) tupleAll_ok T.b_tuple (by decide +kernel) (aCons (xVar 3) aNil)) (aCons (xCallT (call_tupAll rfl) tupleAll_ok T.b_tuple (by decide +kernel) (aCons (xVar 4) aNil)) (aCons (xCallT (call_tupAll rfl) tupleAll_ok T.b_tuple (by decide +kernel) (aCons (xVar 5) aNil)) (aCons (xVar 6) aNil)))))) T.cl T.n_told)
      (ssCons (sSetF (xVar 0) (xLc [("some", 7)] rfl S.nd (iSeq (xTup (aCons (xVar 2) (aCons (xVar 3) (aCons (xVar 4) aNil))))) (by kernel_rfl) (fun _ _ _ _ _ => (gOne 7 S.nd)) (fun _ _ _ _ _ => tsNil) (fun _ _ _ _ _ => (xCall (ok_places_of T) arity_fun (hr0.mono (by decide)) T.g_places_of (aCons (xFld (xVar 0) T.cl T.n_table) (aCons (xVar 7) aNil)))) (by decide)) T.cl T.n_places)
      (ssCons (sSetF (xVar 0) xInt T.cl T.n_coming)
      (ssCons (sSetF (xVar 0) xNewK T.cl T.n_rows)
      (ssCons (sSetF (xVar 0) xNewT T.cl T.n_by_place)
      (ssCons (sSetF (xVar 0) xNewT T.cl T.n_cells)
      (ssOne (sSetF (xVar 0) (xLst aNil) T.cl T.n_past))))))))))
def b_K_place_of : SF := (evRet (evArgs mkTup (evCons (evArgs f_at_places (evCons (evVar 1) (evCons (evBin ixAll (evFld "places" (evVar 0)) (evC (.int 0))) evNil))) (evCons (evArgs f_at_places (evCons (evVar 1) (evCons (evBin ixAll (evFld "places" (evVar 0)) (evC (.int 1))) evNil))) evNil))))
def f_K_place_of : List SV → VH → EvR := evFun 2 0 b_K_place_of
theorem sc_K_place_of : FnScope ["self", "row"] ["self", "row"] (defScope s_K_place_of) := ⟨rfl, rfl, rfl, by decide +kernel, rfl, by decide +kernel, by decide +kernel⟩
theorem ok_K_place_of (T : Txt K mg C base) : OkF C P w K mg base 2 (T.ad "K_place_of") 2 f_K_place_of :=
  ok_def T.d_K_place_of sc_K_place_of rfl rfl fun cdv A outer s H hr => by
    have S := sc_K_place_of
    have hun := hr.un
    have hu9 : (A.deeper (envOfC "Keeper.place_of" (defScope s_K_place_of) s.heap.objs.size (T.ad "K_place_of") cdv)).units + 9 < cLine := by omega
    have hu10 : (A.deeper (envOfC "Keeper.place_of" (defScope s_K_place_of) s.heap.objs.size (T.ad "K_place_of") cdv)).units + 10 < cLine := by omega
    have hu64 : (A.deeper (envOfC "Keeper.place_of" (defScope s_K_place_of) s.heap.objs.size (T.ad "K_place_of") cdv)).units + 64 < cLine := by omega
    have hu66 : (A.deeper (envOfC "Keeper.place_of" (defScope s_K_place_of) s.heap.objs.size (T.ad "K_place_of") cdv)).units + 66 < cLine := by omega
    have hr0 := hr
    exact (ssOne (sRet (xTup (aCons (xCall (ok_at_places T) arity_fun (hr0.mono (by decide)) T.g_at_places_tables (aCons (xVar 1) (aCons (xIx hu9 (xFld (xVar 0) T.cl T.n_places) xInt) aNil))) (aCons (xCall (ok_at_places T) arity_fun (hr0.mono (by decide)) T.g_at_places_tables (aCons (xVar 1) (aCons (xIx hu9 (xFld (xVar 0) T.cl T.n_places) xInt) aNil))) aNil)))))
def b_K_cell_of : SF := (evSeq (evIfS (evTest (evBin eqP (evArgs lenAll (evCons (evVar 1) evNil)) (evC (.int 0)))) (evRet (evC .non)) evSkip)
    (evSeq (evAsg (.one 2) (evArgs mkLst evNil))
    (evSeq (evFor (evZipI (evCons (evBin ixAll (evFld "places" (evVar 0)) (evC (.int 2))) (evCons (evBin ixAll (evFld "told" (evVar 0)) (evC (.int 3))) evNil))) (.many [3, 4]) (evDrop (evMethK .lst appP (evVar 2) (evCons (evArgs f_put_together (evCons (evComp (evSeqI (evVar 1)) (.one 5) evYes (evBin ixAll (evBin ixAll (evFld "rows" (evVar 0)) (evVar 5)) (evVar 3)) [5]) (evCons (evVar 4) evNil))) evNil))))
    (evRet (evArgs tupleAll (evCons (evVar 2) evNil))))))
def f_K_cell_of : List SV → VH → EvR := evFun 2 4 b_K_cell_of
theorem sc_K_cell_of : FnScope ["self", "numbers", "found", "place", "way", "number"] ["self", "numbers"] (defScope s_K_cell_of) := ⟨rfl, rfl, rfl, by decide +kernel, rfl, by decide +kernel, by decide +kernel⟩
theorem ok_K_cell_of (T : Txt K mg C base) : OkF C P w K mg base 5 (T.ad "K_cell_of") 2 f_K_cell_of :=
  ok_def T.d_K_cell_of sc_K_cell_of rfl rfl fun cdv A outer s H hr => by
    have S := sc_K_cell_of
    have hun := hr.un
    have hu9 : (A.deeper (envOfC "Keeper.cell_of" (defScope s_K_cell_of) s.heap.objs.size (T.ad "K_cell_of") cdv)).units + 9 < cLine := by omega
    have hu10 : (A.deeper (envOfC "Keeper.cell_of" (defScope s_K_cell_of) s.heap.objs.size (T.ad "K_cell_of") cdv)).units + 10 < cLine := by omega
    have hu64 : (A.deeper (envOfC "Keeper.cell_of" (defScope s_K_cell_of) s.heap.objs.size (T.ad "K_cell_of") cdv)).units + 64 < cLine := by omega
    have hu66 : (A.deeper (envOfC "Keeper.cell_of" (defScope s_K_cell_of) s.heap.objs.size (T.ad "K_cell_of") cdv)).units + 66 < cLine := by omega
    have hr0 := hr
    exact (ssCons (sIf (tCmp (op_eqD hu64) eqP_ok (xCallB call_lenAll lenAll_ok T.b_len (by decide +kernel) (aCons (xVar 1) aNil)) xInt) (ssOne (sRet xNon)) ssNil)
      (ssCons (sSet 2 S.nd (xLst aNil))
      (ssCons (sFor PassesOwn.never rfl (iZip T.b_zip (aCons (xIx hu9 (xFld (xVar 0) T.cl T.n_places) xInt) (aCons (xIx hu9 (xFld (xVar 0) T.cl T.n_told) xInt) aNil))) (gMany [3, 4] rfl (gsCons 3 S.nd (gsCons 4 S.nd gsNil))) (ssOne (sExpr (xMeth (kd := .lst) PySem.F.plainAttrs_list PySem.F.slot_list_append PySem.F.type_list_append mt_append appP_ok (xVar 2) (aCons (xCall (ok_put_together T) arity_fun (hr0.mono (by decide)) T.g_put_together (aCons (xLc [("number", 5)] rfl S.nd (iSeq (xVar 1)) (by kernel_rfl) (fun _ _ _ _ _ => (gOne 5 S.nd)) (fun _ _ _ _ _ => tsNil) (fun _ _ _ _ _ => (xIx hu9 (xIx hu9 (xFld (xVar 0) T.cl T.n_rows) (xVar 5)) (xVar 3))) (by decide)) (aCons (xVar 4) aNil))) aNil)))))
      (ssOne (sRet (xCallT (call_tupAll rfl) tupleAll_ok T.b_tuple (by decide +kernel) (aCons (xVar 2) aNil)))))))
def b_K_found_anew : SF := (evSeq (evAsg (.one 2) (evMethK .dct getP (evFld "by_place" (evVar 0)) (evCons (evVar 1) (evCons (evArgs mkLst evNil) evNil))))
    (evSeq (evAsg (.one 3) (evMethK .dct popDP (evFld "cells" (evVar 0)) (evCons (evVar 1) (evCons (evC .non) evNil))))
    (evSeq (evAsg (.one 4) (evMethI "cell_of" f_K_cell_of (evVar 0) (evCons (evVar 2) evNil)))
    (evSeq (evIfS (evTest (evBin isNP (evVar 4) (evC .non))) (evDrop (evMethK .dct popDP (evFld "by_place" (evVar 0)) (evCons (evVar 1) (evCons (evC .non) evNil)))) (evPut (evFld "cells" (evVar 0)) (evVar 1) (evVar 4)))
    (evRet (evIf (evTest (evBin eqP (evVar 3) (evVar 4))) (evArgs mkLst evNil) (evArgs mkLst (evCons (evBin addV (evVar 1) (evArgs mkTup (evCons (evVar 3) (evCons (evVar 4) evNil)))) evNil))))))))
def f_K_found_anew : List SV → VH → EvR := evFun 2 3 b_K_found_anew
theorem sc_K_found_anew : FnScope ["self", "place", "numbers", "old", "new"] ["self", "place"] (defScope s_K_found_anew) := ⟨rfl, rfl, rfl, by decide +kernel, rfl, by decide +kernel, by decide +kernel⟩
theorem ok_K_found_anew (T : Txt K mg C base) : OkF C P w K mg base 6 (T.ad "K_found_anew") 2 f_K_found_anew :=
  ok_def T.d_K_found_anew sc_K_found_anew rfl rfl fun cdv A outer s H hr => by
    have S := sc_K_found_anew
    have hun := hr.un
    have hu9 : (A.deeper (envOfC "Keeper.found_anew" (defScope s_K_found_anew) s.heap.objs.size (T.ad "K_found_anew") cdv)).units + 9 < cLine := by omega
    have hu10 : (A.deeper (envOfC "Keeper.found_anew" (defScope s_K_found_anew) s.heap.objs.size (T.ad "K_found_anew") cdv)).units + 10 < cLine := by omega
    have hu64 : (A.deeper (envOfC "Keeper.found_anew" (defScope s_K_found_anew) s.heap.objs.size (T.ad "K_found_anew") cdv)).units + 64 < cLine := by omega
    have hu66 : (A.deeper (envOfC "Keeper.found_anew" (defScope s_K_found_anew) s.heap.objs.size (T.ad "K_found_anew") cdv)).units + 66 < cLine := by omega
    have hr0 := hr
    exact (ssCons (sSet 2 S.nd (xMeth (kd := .dct) PySem.F.plainAttrs_dict PySem.F.slot_dict_get PySem.F.type_dict_get (mt_dtGet hu9) getP_ok (xFld (xVar 0) T.cl T.n_by_place) (aCons (xVar 1) (aCons (xLst aNil) aNil))))
      (ssCons (sSet 3 S.nd (xMeth (kd := .dct) PySem.F.plainAttrs_dict PySem.F.slot_dict_pop PySem.F.type_dict_pop (mt_dtPop hu9) popDP_ok (xFld (xVar 0) T.cl T.n_cells) (aCons (xVar 1) (aCons xNon aNil))))
      (ssCons (sSet 4 S.nd (xMethI (ok_K_cell_of T) arity_fun (hr0.mono (by decide)) T.cl T.m_cell_of (xVar 0) (aCons (xVar 2) aNil)))
      (ssCons (sIf (tCmp op_isN isNP_ok (xVar 4) xNon) (ssOne (sExpr (xMeth (kd := .dct) PySem.F.plainAttrs_dict PySem.F.slot_dict_pop PySem.F.type_dict_pop (mt_dtPop hu9) popDP_ok (xFld (xVar 0) T.cl T.n_by_place) (aCons (xVar 1) (aCons xNon aNil))))) (ssOne (sPut hu9 (xFld (xVar 0) T.cl T.n_cells) (xVar 1) (xVar 4))))
      (ssOne (sRet (xIf (tCmp (op_eqD hu64) eqP_ok (xVar 3) (xVar 4)) (xLst aNil) (xLst (aCons (xAdd (xVar 1) (xTup (aCons (xVar 3) (aCons (xVar 4) aNil)))) aNil)))))))))
def b_K_put_at : SF := (evSeq (evPut (evFld "rows" (evVar 0)) (evVar 1) (evVar 2))
    (evSeq (evAsg (.one 3) (evMethI "place_of" f_K_place_of (evVar 0) (evCons (evVar 2) evNil)))
    (evSeq (evPut (evFld "by_place" (evVar 0)) (evVar 3) (evArgs sortedAll (evCons (evBin addV (evMethK .dct getP (evFld "by_place" (evVar 0)) (evCons (evVar 3) (evCons (evArgs mkLst evNil) evNil))) (evArgs mkLst (evCons (evVar 1) evNil))) evNil)))
    (evRet (evMethI "found_anew" f_K_found_anew (evVar 0) (evCons (evVar 3) evNil))))))
def f_K_put_at : List SV → VH → EvR := evFun 3 1 b_K_put_at
theorem sc_K_put_at : FnScope ["self", "number", "row", "place"] ["self", "number", "row"] (defScope s_K_put_at) := ⟨rfl, rfl, rfl, by decide +kernel, rfl, by decide +kernel, by decide +kernel⟩
theorem ok_K_put_at (T : Txt K mg C base) : OkF C P w K mg base 7 (T.ad "K_put_at") 3 f_K_put_at :=
  ok_def T.d_K_put_at sc_K_put_at rfl rfl fun cdv A outer s H hr => by
    have S := sc_K_put_at
    have hun := hr.un
    have hu9 : (A.deeper (envOfC "Keeper.put_at" (defScope s_K_put_at) s.heap.objs.size (T.ad "K_put_at") cdv)).units + 9 < cLine := by omega
    have hu10 : (A.deeper (envOfC "Keeper.put_at" (defScope s_K_put_at) s.heap.objs.size (T.ad "K_put_at") cdv)).units + 10 < cLine := by omega
    have hu64 : (A.deeper (envOfC "Keeper.put_at" (defScope s_K_put_at) s.heap.objs.size (T.ad "K_put_at") cdv)).units + 64 < cLine := by omega
    have hu66 : (A.deeper (envOfC "Keeper.put_at" (defScope s_K_put_at) s.heap.objs.size (T.ad "K_put_at") cdv)).units + 66 < cLine := by omega
    have hr0 := hr
    exact (ssCons (sPut hu9 (xFld (xVar 0) T.cl T.n_rows) (xVar 1) (xVar 2))
      (ssCons (sSet 3 S.nd (xMethI (ok_K_place_of T) arity_fun (hr0.mono (by decide)) T.cl T.m_place_of (xVar 0) (aCons (xVar 2) aNil)))
      (ssCons (sPut hu9 (xFld (xVar 0) T.cl T.n_by_place) (xVar 3) (xCallB (cr_sortedAll rfl hu66) sortedAll_ok T.b_sorted (by decide +kernel) (aCons (xAdd (xMeth (kd := .dct) PySem.F.plainAttrs_dict PySem.F.slot_dict_get PySem.F.type_dict_get (mt_dtGet hu9) getP_ok (xFld (xVar 0) T.cl T.n_by_place) (aCons (xVar 3) (aCons (xLst aNil) aNil))) (xLst (aCons (xVar 1) aNil))) aNil)))
      (ssOne (sRet (xMethI (ok_K_found_anew T) arity_fun (hr0.mono (by decide)) T.cl T.m_found_anew (xVar 0) (aCons (xVar 3) aNil)))))))
def b_K_taken : SF := (evSeq (evAsg (.one 2) (evMethK .dct popKP (evFld "rows" (evVar 0)) (evCons (evVar 1) evNil)))
    (evSeq (evAsg (.one 3) (evMethI "place_of" f_K_place_of (evVar 0) (evCons (evVar 2) evNil)))
    (evSeq (evDrop (evMethK .lst remP (evBin ixAll (evFld "by_place" (evVar 0)) (evVar 3)) (evCons (evVar 1) evNil)))
    (evRet (evMethI "found_anew" f_K_found_anew (evVar 0) (evCons (evVar 3) evNil))))))
def f_K_taken : List SV → VH → EvR := evFun 2 2 b_K_taken
theorem sc_K_taken : FnScope ["self", "number", "row", "place"] ["self", "number"] (defScope s_K_taken) := ⟨rfl, rfl, rfl, by decide +kernel, rfl, by decide +kernel, by decide +kernel⟩
theorem ok_K_taken (T : Txt K mg C base) : OkF C P w K mg base 7 (T.ad "K_taken") 2 f_K_taken :=
  ok_def T.d_K_taken sc_K_taken rfl rfl fun cdv A outer s H hr => by
    have S := sc_K_taken
    have hun := hr.un
    have hu9 : (A.deeper (envOfC "Keeper.taken" (defScope s_K_taken) s.heap.objs.size (T.ad "K_taken") cdv)).units + 9 < cLine := by omega
    have hu10 : (A.deeper (envOfC "Keeper.taken" (defScope s_K_taken) s.heap.objs.size (T.ad "K_taken") cdv)).units + 10 < cLine := by omega
    have hu64 : (A.deeper (envOfC "Keeper.taken" (defScope s_K_taken) s.heap.objs.size (T.ad "K_taken") cdv)).units + 64 < cLine := by omega
    have hu66 : (A.deeper (envOfC "Keeper.taken" (defScope s_K_taken) s.heap.objs.size (T.ad "K_taken") cdv)).units + 66 < cLine := by omega
    have hr0 := hr
    exact (ssCons (sSet 2 S.nd (xMeth (kd := .dct) PySem.F.plainAttrs_dict PySem.F.slot_dict_pop PySem.F.type_dict_pop mt_dkPop popKP_ok (xFld (xVar 0) T.cl T.n_rows) (aCons (xVar 1) aNil)))
      (ssCons (sSet 3 S.nd (xMethI (ok_K_place_of T) arity_fun (hr0.mono (by decide)) T.cl T.m_place_of (xVar 0) (aCons (xVar 2) aNil)))
      (ssCons (sExpr (xMeth (kd := .lst) PySem.F.plainAttrs_list PySem.F.slot_list_remove PySem.F.type_list_remove mt_remove remP_ok (xIx hu9 (xFld (xVar 0) T.cl T.n_by_place) (xVar 3)) (aCons (xVar 1) aNil)))
      (ssOne (sRet (xMethI (ok_K_found_anew T) arity_fun (hr0.mono (by decide)) T.cl T.m_found_anew (xVar 0) (aCons (xVar 3) aNil)))))))
def b_K_put_row : SF := (evSeq (evFor (evZipI (evCons (evBin ixAll (evFld "places" (evVar 0)) (evC (.int 2))) (evCons (evBin ixAll (evFld "told" (evVar 0)) (evC (.int 3))) evNil))) (.many [2, 3]) (evIfS (evAnd (evTest (evBin eqP (evVar 3) (evC (.str "sum")))) (evTest (evArgs isiP (evCons (evBin ixAll (evVar 1) (evVar 2)) (evCons (evC (.ty "str")) evNil))))) evNoS evSkip))
    (evSeq (evAsg (.one 4) (evFld "coming" (evVar 0)))
    (evSeq (evAugF "coming" (evVar 0) (evC (.int 1)))
    (evSeq (evDrop (evMethK .lst appP (evFld "past" (evVar 0)) (evCons (evArgs mkTup (evCons (evC (.str "put")) (evCons (evVar 4) (evCons (evC .non) evNil)))) evNil)))
    (evRet (evArgs mkTup (evCons (evVar 4) (evCons (evMethI "put_at" f_K_put_at (evVar 0) (evCons (evVar 4) (evCons (evArgs tupleAll (evCons (evVar 1) evNil)) evNil))) evNil))))))))
def f_K_put_row : List SV → VH → EvR := evFun 2 3 b_K_put_row
theorem sc_K_put_row : FnScope ["self", "row", "place", "way", "number"] ["self", "row"] (defScope s_K_put_row) := ⟨rfl, rfl, rfl, by decide +kernel, rfl, by decide +kernel, by decide +kernel⟩
theorem ok_K_put_row (T : Txt K mg C base) : OkF C P w K mg base 8 (T.ad "K_put_row") 2 f_K_put_row :=
  ok_def T.d_K_put_row sc_K_put_row rfl rfl fun cdv A outer s H hr => by
    have S := sc_K_put_row
    have hun := hr.un
    have hu9 : (A.deeper (envOfC "Keeper.put_row" (defScope s_K_put_row) s.heap.objs.size (T.ad "K_put_row") cdv)).units + 9 < cLine := by omega
    have hu10 : (A.deeper (envOfC "Keeper.put_row" (defScope s_K_put_row) s.heap.objs.size (T.ad "K_put_row") cdv)).units + 10 < cLine := by omega
    have hu64 : (A.deeper (envOfC "Keeper.put_row" (defScope s_K_put_row) s.heap.objs.size (T.ad "K_put_row") cdv)).units + 64 < cLine := by omega
    have hu66 : (A.deeper (envOfC "Keeper.put_row" (defScope s_K_put_row) s.heap.objs.size (T.ad "K_put_row") cdv)).units + 66 < cLine := by omega
    have hr0 := hr
    exact (ssCons (sFor PassesOwn.never rfl (iZip T.b_zip (aCons (xIx hu9 (xFld (xVar 0) T.cl T.n_places) xInt) (aCons (xIx hu9 (xFld (xVar 0) T.cl T.n_told) xInt) aNil))) (gMany [2, 3] rfl (gsCons 2 S.nd (gsCons 3 S.nd gsNil))) (ssOne (sIf (PW.pt (wAnd (tCmp (op_eqD hu64) eqP_ok (xVar 3) xStr) (wAnd1 (tVal (xCallB call_isiAll isiP_ok T.b_isinstance (by decide +kernel) (aCons (xIx hu9 (xVar 1) (xVar 2)) (aCons (xTy T.b_str (by decide +kernel)) aNil))))))) (ssOne sNo) ssNil)))
      (ssCons (sSet 4 S.nd (xFld (xVar 0) T.cl T.n_coming))
      (ssCons (sAugF (xVar 0) xInt T.cl T.n_coming)
      (ssCons (sExpr (xMeth (kd := .lst) PySem.F.plainAttrs_list PySem.F.slot_list_append PySem.F.type_list_append mt_append appP_ok (xFld (xVar 0) T.cl T.n_past) (aCons (xTup (aCons xStr (aCons (xVar 4) (aCons xNon aNil)))) aNil)))
      (ssOne (sRet (xTup (aCons (xVar 4) (aCons (xMethI (ok_K_put_at T) arity_fun (hr0.mono (by decide)) T.cl T.m_put_at (xVar 0) (aCons (xVar 4) (aCons (xCallT (call_tupAll rfl) tupleAll_ok T.b_tuple (by decide +kernel) (aCons (xVar 1) aNil)) aNil))) aNil)))))))))
def b_K_take_row : SF := (evSeq (evIfS (evTest (evBin notInAll (evVar 1) (evFld "rows" (evVar 0)))) evNoS evSkip)
    (evSeq (evDrop (evMethK .lst appP (evFld "past" (evVar 0)) (evCons (evArgs mkTup (evCons (evC (.str "take")) (evCons (evVar 1) (evCons (evBin ixAll (evFld "rows" (evVar 0)) (evVar 1)) evNil)))) evNil)))
    (evRet (evMethI "taken" f_K_taken (evVar 0) (evCons (evVar 1) evNil)))))
def f_K_take_row : List SV → VH → EvR := evFun 2 0 b_K_take_row
theorem sc_K_take_row : FnScope ["self", "number"] ["self", "number"] (defScope s_K_take_row) := ⟨rfl, rfl, rfl, by decide +kernel, rfl, by decide +kernel, by decide +kernel⟩
theorem ok_K_take_row (T : Txt K mg C base) : OkF C P w K mg base 8 (T.ad "K_take_row") 2 f_K_take_row :=
  ok_def T.d_K_take_row sc_K_take_row rfl rfl fun cdv A outer s H hr => by
    have S := sc_K_take_row
    have hun := hr.un
    have hu9 : (A.deeper (envOfC "Keeper.take_row" (defScope s_K_take_row) s.heap.objs.size (T.ad "K_take_row") cdv)).units + 9 < cLine := by omega
    have hu10 : (A.deeper (envOfC "Keeper.take_row" (defScope s_K_take_row) s.heap.objs.size (T.ad "K_take_row") cdv)).units + 10 < cLine := by omega
    have hu64 : (A.deeper (envOfC "Keeper.take_row" (defScope s_K_take_row) s.heap.objs.size (T.ad "K_take_row") cdv)).units + 64 < cLine := by omega
    have hu66 : (A.deeper (envOfC "Keeper.take_row" (defScope s_K_take_row) s.heap.objs.size (T.ad "K_take_row") cdv)).units + 66 < cLine := by omega
    have hr0 := hr
    exact (ssCons (sIf (tCmp (op_notInAll hu66) notInAll_ok (xVar 1) (xFld (xVar 0) T.cl T.n_rows)) (ssOne sNo) ssNil)
      (ssCons (sExpr (xMeth (kd := .lst) PySem.F.plainAttrs_list PySem.F.slot_list_append PySem.F.type_list_append mt_append appP_ok (xFld (xVar 0) T.cl T.n_past) (aCons (xTup (aCons xStr (aCons (xVar 1) (aCons (xIx hu9 (xFld (xVar 0) T.cl T.n_rows) (xVar 1)) aNil)))) aNil)))
      (ssOne (sRet (xMethI (ok_K_taken T) arity_fun (hr0.mono (by decide)) T.cl T.m_taken (xVar 0) (aCons (xVar 1) aNil))))))
def b_K_undo : SF := (evSeq (evIfS (evTest (evBin eqP (evArgs lenAll (evCons (evFld "past" (evVar 0)) evNil)) (evC (.int 0)))) (evRet (evC .non)) evSkip)
    (evSeq (evAsg (.many [1, 2, 3]) (evMethK .lst popP (evFld "past" (evVar 0)) evNil))
    (evSeq (evIfS (evTest (evBin eqP (evVar 1) (evC (.str "take")))) (evRet (evMethI "put_at" f_K_put_at (evVar 0) (evCons (evVar 2) (evCons (evVar 3) evNil)))) evSkip)
    (evSeq (evSetF "coming" (evVar 0) (evVar 2))
    (evRet (evMethI "taken" f_K_taken (evVar 0) (evCons (evVar 2) evNil)))))))
def f_K_undo : List SV → VH → EvR := evFun 1 3 b_K_undo
theorem sc_K_undo : FnScope ["self", "word", "number", "row"] ["self"] (defScope s_K_undo) := ⟨rfl, rfl, rfl, by decide +kernel, rfl, by decide +kernel, by decide +kernel⟩
theorem ok_K_undo (T : Txt K mg C base) : OkF C P w K mg base 8 (T.ad "K_undo") 1 f_K_undo :=
  ok_def T.d_K_undo sc_K_undo rfl rfl fun cdv A outer s H hr => by
    have S := sc_K_undo
    have hun := hr.un
    have hu9 : (A.deeper (envOfC "Keeper.undo" (defScope s_K_undo) s.heap.objs.size (T.ad "K_undo") cdv)).units + 9 < cLine := by omega
    have hu10 : (A.deeper (envOfC "Keeper.undo" (defScope s_K_undo) s.heap.objs.size (T.ad "K_undo") cdv)).units + 10 < cLine := by omega
    have hu64 : (A.deeper (envOfC "Keeper.undo" (defScope s_K_undo) s.heap.objs.size (T.ad "K_undo") cdv)).units + 64 < cLine := by omega
    have hu66 : (A.deeper (envOfC "Keeper.undo" (defScope s_K_undo) s.heap.objs.size (T.ad "K_undo") cdv)).units + 66 < cLine := by omega
    have hr0 := hr
    exact (ssCons (sIf (tCmp (op_eqD hu64) eqP_ok (xCallB call_lenAll lenAll_ok T.b_len (by decide +kernel) (aCons (xFld (xVar 0) T.cl T.n_past) aNil)) xInt) (ssOne (sRet xNon)) ssNil)
      (ssCons (sAsg (xMeth0 (kd := .lst) PySem.F.plainAttrs_list PySem.F.slot_list_pop PySem.F.type_list_pop mt_pop popP_ok (xFld (xVar 0) T.cl T.n_past)) (gMany [1, 2, 3] rfl (gsCons 1 S.nd (gsCons 2 S.nd (gsCons 3 S.nd gsNil)))))
      (ssCons (sIf (tCmp (op_eqD hu64) eqP_ok (xVar 1) xStr) (ssOne (sRet (xMethI (ok_K_put_at T) arity_fun (hr0.mono (by decide)) T.cl T.m_put_at (xVar 0) (aCons (xVar 2) (aCons (xVar 3) aNil))))) ssNil)
      (ssCons (sSetF (xVar 0) (xVar 2) T.cl T.n_coming)
      (ssOne (sRet (xMethI (ok_K_taken T) arity_fun (hr0.mono (by decide)) T.cl T.m_taken (xVar 0) (aCons (xVar 2) aNil))))))))
def b_K_wide_now : SF := (evSeq (evAsg (.many [1, 2, 3, 4, 5]) (evFld "told" (evVar 0)))
    (evSeq (evAsg (.one 6) (evArgs tupleAll (evCons (evComp (evSeqI (evArgs sortedAll (evCons (evFld "rows" (evVar 0)) evNil))) (.one 7) evYes (evBin ixAll (evFld "rows" (evVar 0)) (evVar 7)) [7]) evNil)))
    (evRet (evArgs f_folded_by (evCons (evArgs mkTup (evCons (evBin ixAll (evFld "table" (evVar 0)) (evC (.int 0))) (evCons (evVar 6) evNil))) (evCons (evVar 1) (evCons (evVar 2) (evCons (evVar 3) (evCons (evVar 4) (evCons (evVar 5) evNil))))))))))
def f_K_wide_now : List SV → VH → EvR := evFun 1 7 b_K_wide_now
theorem sc_K_wide_now : FnScope ["self", "key", "names", "values", "ways", "order", "rows", "number"] ["self"] (defScope s_K_wide_now) := ⟨rfl, rfl, rfl, by decide +kernel, rfl, by decide +kernel, by decide +kernel⟩
theorem ok_K_wide_now (T : Txt K mg C base) : OkF C P w K mg base 7 (T.ad "K_wide_now") 1 f_K_wide_now :=
  ok_def T.d_K_wide_now sc_K_wide_now rfl rfl fun cdv A outer s H hr => by
    have S := sc_K_wide_now
    have hun := hr.un
    have hu9 : (A.deeper (envOfC "Keeper.wide_now" (defScope s_K_wide_now) s.heap.objs.size (T.ad "K_wide_now") cdv)).units + 9 < cLine := by omega
    have hu10 : (A.deeper (envOfC "Keeper.wide_now" (defScope s_K_wide_now) s.heap.objs.size (T.ad "K_wide_now") cdv)).units + 10 < cLine := by omega
    have hu64 : (A.deeper (envOfC "Keeper.wide_now" (defScope s_K_wide_now) s.heap.objs.size (T.ad "K_wide_now") cdv)).units + 64 < cLine := by omega
    have hu66 : (A.deeper (envOfC "Keeper.wide_now" (defScope s_K_wide_now) s.heap.objs.size (T.ad "K_wide_now") cdv)).units + 66 < cLine := by omega
    have hr0 := hr
    exact (ssCons (sAsg (xFld (xVar 0) T.cl T.n_told) (gMany [1, 2, 3, 4, 5] rfl (gsCons 1 S.nd (gsCons 2 S.nd (gsCons 3 S.nd (gsCons 4 S.nd (gsCons 5 S.nd gsNil)))))))
      (ssCons (sSet 6 S.nd (xCallT (call_tupAll rfl) tupleAll_ok T.b_tuple (by decide +kernel) (aCons (xLc [("number", 7)] rfl S.nd (iSeq (xCallB (cr_sortedAll rfl hu66) sortedAll_ok T.b_sorted (by decide +kernel) (aCons (xFld (xVar 0) T.cl T.n_rows) aNil))) (by kernel_rfl) (fun _ _ _ _ _ => (gOne 7 S.nd)) (fun _ _ _ _ _ => tsNil) (fun _ _ _ _ _ => (xIx hu9 (xFld (xVar 0) T.cl T.n_rows) (xVar 7))) (by decide)) aNil)))
      (ssOne (sRet (xCall (ok_folded_by T) arity_fun (hr0.mono (by decide)) T.g_folded_by (aCons (xTup (aCons (xIx hu9 (xFld (xVar 0) T.cl T.n_table) xInt) (aCons (xVar 6) aNil))) (aCons (xVar 1) (aCons (xVar 2) (aCons (xVar 3) (aCons (xVar 4) (aCons (xVar 5) aNil)))))))))))
def b_turned : SF := (evSeq (evIfS (evTest (evBin neP (evArgs sortedAll (evCons (evBin addV (evArgs listAll (evCons (evVar 1) evNil)) (evArgs listAll (evCons (evVar 2) evNil))) evNil)) (evArgs sortedAll (evCons (evBin addV (evBin ixAll (evVar 0) (evC (.int 0))) (evBin ixAll (evVar 0) (evC (.int 1)))) evNil)))) evNoS evSkip)
    (evRet (evArgs f_folded (evCons (evArgs f_unfolded (evCons (evVar 0) evNil)) (evCons (evVar 1) (evCons (evVar 2) (evCons (evBin ixAll (evVar 0) (evC (.int 2))) (evCons (evC (.str "seen")) evNil))))))))
def f_turned : List SV → VH → EvR := evFun 3 0 b_turned
theorem sc_turned : FnScope ["wide", "key", "names"] ["wide", "key", "names"] (defScope s_turned) := ⟨rfl, rfl, rfl, by decide +kernel, rfl, by decide +kernel, by decide +kernel⟩
theorem ok_turned (T : Txt K mg C base) : OkF C P w K mg base 6 (T.ad "turned") 3 f_turned :=
  ok_def T.d_turned sc_turned rfl rfl fun cdv A outer s H hr => by
    have S := sc_turned
    have hun := hr.un
    have hu9 : (A.deeper (envOfC "turned" (defScope s_turned) s.heap.objs.size (T.ad "turned") cdv)).units + 9 < cLine := by omega
    have hu10 : (A.deeper (envOfC "turned" (defScope s_turned) s.heap.objs.size (T.ad "turned") cdv)).units + 10 < cLine := by omega
    have hu64 : (A.deeper (envOfC "turned" (defScope s_turned) s.heap.objs.size (T.ad "turned") cdv)).units + 64 < cLine := by omega
    have hu66 : (A.deeper (envOfC "turned" (defScope s_turned) s.heap.objs.size (T.ad "turned") cdv)).units + 66 < cLine := by omega
    have hr0 := hr
    exact (ssCons (sIf (tCmp (op_neD hu64) neP_ok (xCallB (cr_sortedAll rfl hu66) sortedAll_ok T.b_sorted (by decide +kernel) (aCons (xAdd (xCallT (call_listAll rfl) listAll_ok T.b_list (by decide +kernel) (aCons (xVar 1) aNil)) (xCallT (call_listAll rfl) listAll_ok T.b_list (by decide +kernel) (aCons (xVar 2) aNil))) aNil)) (xCallB (cr_sortedAll rfl hu66) sortedAll_ok T.b_sorted (by decide +kernel) (aCons (xAdd (xIx hu9 (xVar 0) xInt) (xIx hu9 (xVar 0) xInt)) aNil))) (ssOne sNo) ssNil)
      (ssOne (sRet (xCall (ok_folded T) arity_fun (hr0.mono (by decide)) T.g_folded (aCons (xCall (ok_unfolded T) arity_fun (hr0.mono (by decide)) T.g_unfolded (aCons (xVar 0) aNil)) (aCons (xVar 1) (aCons (xVar 2) (aCons (xIx hu9 (xVar 0) xInt) (aCons xStr aNil)))))))))
def b_without : SF := (evSeq (evIfS (evTest (evBin notInAll (evVar 1) (evVar 0))) evNoS evSkip)
    (evRet (evComp (evSeqI (evVar 0)) (.one 2) (evTest (evBin neP (evVar 2) (evVar 1))) (evVar 2) [2])))
def f_without : List SV → VH → EvR := evFun 2 1 b_without
theorem sc_without : FnScope ["names", "name", "one"] ["names", "name"] (defScope s_without) := ⟨rfl, rfl, rfl, by decide +kernel, rfl, by decide +kernel, by decide +kernel⟩
theorem ok_without (T : Txt K mg C base) : OkF C P w K mg base 1 (T.ad "without") 2 f_without :=
  ok_def T.d_without sc_without rfl rfl fun cdv A outer s H hr => by
    have S := sc_without
    have hun := hr.un
    have hu9 : (A.deeper (envOfC "without" (defScope s_without) s.heap.objs.size (T.ad "without") cdv)).units + 9 < cLine := by omega
    have hu10 : (A.deeper (envOfC "without" (defScope s_without) s.heap.objs.size (T.ad "without") cdv)).units + 10 < cLine := by omega
    have hu64 : (A.deeper (envOfC "without" (defScope s_without) s.heap.objs.size (T.ad "without") cdv)).units + 64 < cLine := by omega
    have hu66 : (A.deeper (envOfC "without" (defScope s_without) s.heap.objs.size (T.ad "without") cdv)).units + 66 < cLine := by omega
    have hr0 := hr
    exact (ssCons (sIf (tCmp (op_notInAll hu66) notInAll_ok (xVar 1) (xVar 0)) (ssOne sNo) ssNil)
      (ssOne (sRet (xLc [("one", 2)] rfl S.nd (iSeq (xVar 0)) (by kernel_rfl) (fun _ _ _ _ _ => (gOne 2 S.nd)) (fun _ _ _ _ _ => tsOne (tCmp (op_neD hu64) neP_ok (xVar 2) (xVar 1))) (fun _ _ _ _ _ => (xVar 2)) (by decide)))))
def b_to_key : SF := (evSeq (evAsg (.one 2) (evArgs f_without (evCons (evBin ixAll (evVar 0) (evC (.int 1))) (evCons (evVar 1) evNil))))
    (evRet (evArgs f_turned (evCons (evVar 0) (evCons (evBin addV (evArgs listAll (evCons (evBin ixAll (evVar 0) (evC (.int 0))) evNil)) (evArgs mkLst (evCons (evVar 1) evNil))) (evCons (evVar 2) evNil))))))
def f_to_key : List SV → VH → EvR := evFun 2 1 b_to_key
theorem sc_to_key : FnScope ["wide", "name", "left"] ["wide", "name"] (defScope s_to_key) := ⟨rfl, rfl, rfl, by decide +kernel, rfl, by decide +kernel, by decide +kernel⟩
theorem ok_to_key (T : Txt K mg C base) : OkF C P w K mg base 7 (T.ad "to_key") 2 f_to_key :=
  ok_def T.d_to_key sc_to_key rfl rfl fun cdv A outer s H hr => by
    have S := sc_to_key
    have hun := hr.un
    have hu9 : (A.deeper (envOfC "to_key" (defScope s_to_key) s.heap.objs.size (T.ad "to_key") cdv)).units + 9 < cLine := by omega
    have hu10 : (A.deeper (envOfC "to_key" (defScope s_to_key) s.heap.objs.size (T.ad "to_key") cdv)).units + 10 < cLine := by omega
    have hu64 : (A.deeper (envOfC "to_key" (defScope s_to_key) s.heap.objs.size (T.ad "to_key") cdv)).units + 64 < cLine := by omega
    have hu66 : (A.deeper (envOfC "to_key" (defScope s_to_key) s.heap.objs.size (T.ad "to_key") cdv)).units + 66 < cLine := by omega
    have hr0 := hr
    exact (ssCons (sSet 2 S.nd (xCall (ok_without T) arity_fun (hr0.mono (by decide)) T.g_without (aCons (xIx hu9 (xVar 0) xInt) (aCons (xVar 1) aNil))))
      (ssOne (sRet (xCall (ok_turned T) arity_fun (hr0.mono (by decide)) T.g_turned (aCons (xVar 0) (aCons (xAdd (xCallT (call_listAll rfl) listAll_ok T.b_list (by decide +kernel) (aCons (xIx hu9 (xVar 0) xInt) aNil)) (xLst (aCons (xVar 1) aNil))) (aCons (xVar 2) aNil)))))))
def b_told_list : SF := (evSeq (evIfS (evOr (evNot (evTest (evArgs isiP (evCons (evVar 0) (evCons (evC (.ty "tuple")) evNil))))) (evOr (evTest (evBin neP (evArgs lenAll (evCons (evVar 0) evNil)) (evC (.int 2)))) (evTest (evBin neP (evBin ixAll (evVar 0) (evC (.int 0))) (evC (.str "told")))))) (evRet (evC .non)) evSkip)
    (evRet (evIf (evTest (evArgs isiP (evCons (evBin ixAll (evVar 0) (evC (.int 1))) (evCons (evArgs mkTup (evCons (evC (.ty "list")) (evCons (evC (.ty "tuple")) evNil))) evNil)))) (evBin ixAll (evVar 0) (evC (.int 1))) (evC .non))))
def f_told_list : List SV → VH → EvR := evFun 1 0 b_told_list
theorem sc_told_list : FnScope ["order"] ["order"] (defScope s_told_list) := ⟨rfl, rfl, rfl, by decide +kernel, rfl, by decide +kernel, by decide +kernel⟩
theorem ok_told_list (T : Txt K mg C base) : OkF C P w K mg base 1 (T.ad "told_list") 1 f_told_list :=
  ok_def T.d_told_list sc_told_list rfl rfl fun cdv A outer s H hr => by
    have S := sc_told_list
    have hun := hr.un
    have hu9 : (A.deeper (envOfC "told_list" (defScope s_told_list) s.heap.objs.size (T.ad "told_list") cdv)).units + 9 < cLine := by omega
    have hu10 : (A.deeper (envOfC "told_list" (defScope s_told_list) s.heap.objs.size (T.ad "told_list") cdv)).units + 10 < cLine := by omega
    have hu64 : (A.deeper (envOfC "told_list" (defScope s_told_list) s.heap.objs.size (T.ad "told_list") cdv)).units + 64 < cLine := by omega
    have hu66 : (A.deeper (envOfC "told_list" (defScope s_told_list) s.heap.objs.size (T.ad "told_list") cdv)).units + 66 < cLine := by omega
    have hr0 := hr
    exact (ssCons (sIf (PW.pt (wOr (tNotB (tVal (xCallB call_isiAll isiP_ok T.b_isinstance (by decide +kernel) (aCons (xVar 0) (aCons (xTy T.b_tuple (by decide +kernel)) aNil))))) (wOr (tCmp (op_neD hu64) neP_ok (xCallB call_lenAll lenAll_ok T.b_len (by decide +kernel) (aCons (xVar 0) aNil)) xInt) (wOr1 (tCmp (op_neD hu64) neP_ok (xIx hu9 (xVar 0) xInt) xStr))))) (ssOne (sRet xNon)) ssNil)
      (ssOne (sRet (xIf (tVal (xCallB call_isiAll isiP_ok T.b_isinstance (by decide +kernel) (aCons (xIx hu9 (xVar 0) xInt) (aCons (xTup (aCons (xTy T.b_list (by decide +kernel)) (aCons (xTy T.b_tuple (by decide +kernel)) aNil))) aNil)))) (xIx hu9 (xVar 0) xInt) xNon))))
def b_places_in : SF := (evSeq (evAsg (.one 2) (evArgs f_told_list (evCons (evVar 1) evNil)))
    (evSeq (evIfS (evTest (evBin notNP (evVar 2) (evC .non))) evNoS evSkip)
    (evSeq (evIfS (evTest (evBin notInAll (evVar 1) (evArgs mkTup (evCons (evC (.str "seen")) (evCons (evC (.str "rising")) (evCons (evC (.str "falling")) evNil)))))) evNoS evSkip)
    (evSeq (evIfS (evTest (evBin eqP (evVar 1) (evC (.str "seen")))) evNoS evSkip)
    (evSeq (evAsg (.one 3) (evSortL [0] (evArgs f_ranks (evCons (evBin ixAll (evVar 1) (evVar 0)) evNil)) (fcRange (evArgs lenAll (evCons (evVar 0) evNil)))))
    (evRet (evIf (evTest (evBin eqP (evVar 1) (evC (.str "falling")))) (evUn revP (evVar 3)) (evVar 3))))))))
def f_places_in : List SV → VH → EvR := evFun 2 2 b_places_in
theorem sc_places_in : FnScope ["some", "order", "told", "places"] ["some", "order"] (defScope s_places_in) := ⟨rfl, rfl, rfl, by decide +kernel, rfl, by decide +kernel, by decide +kernel⟩
theorem ok_places_in (T : Txt K mg C base) : OkF C P w K mg base 5 (T.ad "places_in") 2 f_places_in :=
  ok_defC T.d_places_in sc_places_in rfl rfl fun A outer s H hr => by
    have S := sc_places_in
    have hun := hr.un
    have hu9 : (A.deeper (envOfC "places_in" (defScope s_places_in) s.heap.objs.size (T.ad "places_in") (.ref (T.ad "c_places_in")))).units + 9 < cLine := by omega
    have hu10 : (A.deeper (envOfC "places_in" (defScope s_places_in) s.heap.objs.size (T.ad "places_in") (.ref (T.ad "c_places_in")))).units + 10 < cLine := by omega
    have hu64 : (A.deeper (envOfC "places_in" (defScope s_places_in) s.heap.objs.size (T.ad "places_in") (.ref (T.ad "c_places_in")))).units + 64 < cLine := by omega
    have hu66 : (A.deeper (envOfC "places_in" (defScope s_places_in) s.heap.objs.size (T.ad "places_in") (.ref (T.ad "c_places_in")))).units + 66 < cLine := by omega
    have hr0 := hr
    exact (ssCons (sSet 2 S.nd (xCall (ok_told_list T) arity_fun (hr0.mono (by decide)) T.g_told_list (aCons (xVar 1) aNil)))
      (ssCons (sIf (tCmp op_notN notNP_ok (xVar 2) xNon) (ssOne sNo) ssNil)
      (ssCons (sIf (tCmp (op_notInAll hu66) notInAll_ok (xVar 1) (xTup (aCons xStr (aCons xStr (aCons xStr aNil))))) (ssOne sNo) ssNil)
      (ssCons (sIf (tCmp (op_eqD hu64) eqP_ok (xVar 1) xStr) (ssOne sNo) ssNil)
      (ssCons (sSet 3 S.nd (xSortL (k := 2) (js := [0]) (fr := ["some"]) (N := ["place", "some"]) (x := "place") rfl (hr0.mono (by decide)) T.tb_places_in rfl qual_nox T.t_places_in T.u_places_in T.b_sorted (NdefX.nscope_by (by decide +kernel)) rfl rfl (show NdefX.ndefB (defScope s_places_in) _ _ = true from by decide +kernel) rfl rfl (fun _ _ _ _ _ _ => rfl) (gcRange T.b_range (xCallB call_lenAll lenAll_ok T.b_len (by decide +kernel) (aCons (xVar 0) aNil))) (fun f c' A s H hr => by
      have hu9 := hr.u9
      have hu10 := hr.u10
      have hu64 := hr.u64
      have hu66 := hr.u66
      have hr0 := hr
      exact (xCall (ok_ranks T) arity_fun (hr0.mono (by decide)) T.g_ranks (aCons (xIx hu9 (xVar 1) (xVar 0)) aNil)))))
      (ssOne (sRet (xIf (tCmp (op_eqD hu64) eqP_ok (xVar 1) xStr) (xRev (xVar 3)) (xVar 3)))))))))
def b_at_places2 : SF := (evRet (evArgs tupleAll (evCons (evComp (evSeqI (evVar 1)) (.one 2) evYes (evBin ixAll (evVar 0) (evVar 2)) [2]) evNil)))
def f_at_places2 : List SV → VH → EvR := evFun 2 1 b_at_places2
theorem sc_at_places2 : FnScope ["row", "places", "place"] ["row", "places"] (defScope s_at_places2) := ⟨rfl, rfl, rfl, by decide +kernel, rfl, by decide +kernel, by decide +kernel⟩
theorem ok_at_places2 (T : Txt K mg C base) : OkF C P w K mg base 1 (T.ad "at_places2") 2 f_at_places2 :=
  ok_def T.d_at_places2 sc_at_places2 rfl rfl fun cdv A outer s H hr => by
    have S := sc_at_places2
    have hun := hr.un
    have hu9 : (A.deeper (envOfC "at_places" (defScope s_at_places2) s.heap.objs.size (T.ad "at_places2") cdv)).units + 9 < cLine := by omega
    have hu10 : (A.deeper (envOfC "at_places" (defScope s_at_places2) s.heap.objs.size (T.ad "at_places2") cdv)).units + 10 < cLine := by omega
    have hu64 : (A.deeper (envOfC "at_places" (defScope s_at_places2) s.heap.objs.size (T.ad "at_places2") cdv)).units + 64 < cLine := by omega
    have hu66 : (A.deeper (envOfC "at_places" (defScope s_at_places2) s.heap.objs.size (T.ad "at_places2") cdv)).units + 66 < cLine := by omega
    have hr0 := hr
    exact (ssOne (sRet (xCallT (call_tupAll rfl) tupleAll_ok T.b_tuple (by decide +kernel) (aCons (xLc [("place", 2)] rfl S.nd (iSeq (xVar 1)) (by kernel_rfl) (fun _ _ _ _ _ => (gOne 2 S.nd)) (fun _ _ _ _ _ => tsNil) (fun _ _ _ _ _ => (xIx hu9 (xVar 0) (xVar 2))) (by decide)) aNil))))
def b_heads_in : SF := (evSeq (evAsg (.one 2) (evArgs f_places_in (evCons (evBin ixAll (evVar 0) (evC (.int 3))) (evCons (evVar 1) evNil))))
    (evSeq (evAsg (.one 3) (evArgs tupleAll (evCons (evComp (evSeqI (evBin ixAll (evVar 0) (evC (.int 4)))) (.many [4, 5]) evYes (evArgs mkTup (evCons (evVar 4) (evCons (evArgs f_at_places2 (evCons (evVar 5) (evCons (evVar 2) evNil))) evNil))) [4, 5]) evNil)))
    (evRet (evBin addV (evSl none (some (evC (.int 3))) (evVar 0)) (evArgs mkTup (evCons (evArgs f_at_places2 (evCons (evBin ixAll (evVar 0) (evC (.int 3))) (evCons (evVar 2) evNil))) (evCons (evVar 3) evNil)))))))
def f_heads_in : List SV → VH → EvR := evFun 2 4 b_heads_in
theorem sc_heads_in : FnScope ["wide", "order", "places", "rows", "part", "cells"] ["wide", "order"] (defScope s_heads_in) := ⟨rfl, rfl, rfl, by decide +kernel, rfl, by decide +kernel, by decide +kernel⟩
theorem ok_heads_in (T : Txt K mg C base) : OkF C P w K mg base 6 (T.ad "heads_in") 2 f_heads_in :=
  ok_def T.d_heads_in sc_heads_in rfl rfl fun cdv A outer s H hr => by
    have S := sc_heads_in
    have hun := hr.un
    have hu9 : (A.deeper (envOfC "heads_in" (defScope s_heads_in) s.heap.objs.size (T.ad "heads_in") cdv)).units + 9 < cLine := by omega
    have hu10 : (A.deeper (envOfC "heads_in" (defScope s_heads_in) s.heap.objs.size (T.ad "heads_in") cdv)).units + 10 < cLine := by omega
    have hu64 : (A.deeper (envOfC "heads_in" (defScope s_heads_in) s.heap.objs.size (T.ad "heads_in") cdv)).units + 64 < cLine := by omega
    have hu66 : (A.deeper (envOfC "heads_in" (defScope s_heads_in) s.heap.objs.size (T.ad "heads_in") cdv)).units + 66 < cLine := by omega
    have hr0 := hr
    exact (ssCons (sSet 2 S.nd (xCall (ok_places_in T) arity_fun (hr0.mono (by decide)) T.g_places_in (aCons (xIx hu9 (xVar 0) xInt) (aCons (xVar 1) aNil))))
      (ssCons (sSet 3 S.nd (xCallT (call_tupAll rfl) tupleAll_ok T.b_tuple (by decide +kernel) (aCons (xLc [("part", 4), ("cells", 5)] rfl S.nd (iSeq (xIx hu9 (xVar 0) xInt)) (by kernel_rfl) (fun _ _ _ _ _ => (gMany [4, 5] rfl (gsCons 4 S.nd (gsCons 5 S.nd gsNil)))) (fun _ _ _ _ _ => tsNil) (fun _ _ _ _ _ => (xTup (aCons (xVar 4) (aCons (xCall (ok_at_places2 T) arity_fun (hr0.mono (by decide)) T.g_at_places_orders (aCons (xVar 5) (aCons (xVar 2) aNil))) aNil)))) (by decide)) aNil)))
      (ssOne (sRet (xAdd (xSl1 (xVar 0) xInt) (xTup (aCons (xCall (ok_at_places2 T) arity_fun (hr0.mono (by decide)) T.g_at_places_orders (aCons (xIx hu9 (xVar 0) xInt) (aCons (xVar 2) aNil))) (aCons (xVar 3) aNil))))))))
def b_cell_rank : SF := (evSeq (evIfS (evTest (evBin isNP (evVar 0) (evC .non))) (evRet (evArgs mkTup (evCons (evC (.int 0)) evNil))) evSkip)
    (evRet (evArgs mkTup (evCons (evC (.int 1)) (evCons (evArgs f_rank (evCons (evBin ixAll (evVar 0) (evVar 1)) evNil)) evNil)))))
def f_cell_rank : List SV → VH → EvR := evFun 2 0 b_cell_rank
theorem sc_cell_rank : FnScope ["cell", "place"] ["cell", "place"] (defScope s_cell_rank) := ⟨rfl, rfl, rfl, by decide +kernel, rfl, by decide +kernel, by decide +kernel⟩
theorem ok_cell_rank (T : Txt K mg C base) : OkF C P w K mg base 2 (T.ad "cell_rank") 2 f_cell_rank :=
  ok_def T.d_cell_rank sc_cell_rank rfl rfl fun cdv A outer s H hr => by
    have S := sc_cell_rank
    have hun := hr.un
    have hu9 : (A.deeper (envOfC "cell_rank" (defScope s_cell_rank) s.heap.objs.size (T.ad "cell_rank") cdv)).units + 9 < cLine := by omega
    have hu10 : (A.deeper (envOfC "cell_rank" (defScope s_cell_rank) s.heap.objs.size (T.ad "cell_rank") cdv)).units + 10 < cLine := by omega
    have hu64 : (A.deeper (envOfC "cell_rank" (defScope s_cell_rank) s.heap.objs.size (T.ad "cell_rank") cdv)).units + 64 < cLine := by omega
    have hu66 : (A.deeper (envOfC "cell_rank" (defScope s_cell_rank) s.heap.objs.size (T.ad "cell_rank") cdv)).units + 66 < cLine := by omega
    have hr0 := hr
    exact (ssCons (sIf (tCmp op_isN isNP_ok (xVar 0) xNon) (ssOne (sRet (xTup (aCons xInt aNil)))) ssNil)
      (ssOne (sRet (xTup (aCons xInt (aCons (xCall (ok_rank T) arity_fun (hr0.mono (by decide)) T.g_rank (aCons (xIx hu9 (xVar 0) (xVar 1)) aNil)) aNil))))))
def b_parts_by : SF := (evSeq (evIfS (evTest (evBin notInAll (evVar 1) (evBin ixAll (evVar 0) (evC (.int 3))))) evNoS evSkip)
    (evSeq (evIfS (evTest (evBin notInAll (evVar 2) (evBin ixAll (evVar 0) (evC (.int 2))))) evNoS evSkip)
    (evSeq (evAsg (.many [3, 4]) (evArgs mkTup (evCons (evMethK .tup idxP (evBin ixAll (evVar 0) (evC (.int 3))) (evCons (evVar 1) evNil)) (evCons (evMethK .tup idxP (evBin ixAll (evVar 0) (evC (.int 2))) (evCons (evVar 2) evNil)) evNil))))
    (evRet (evBin addV (evSl none (some (evC (.int 4))) (evVar 0)) (evArgs mkTup (evCons (evArgs tupleAll (evCons (evSortL [4, 3] (evArgs f_cell_rank (evCons (evBin ixAll (evBin ixAll (evVar 0) (evC (.int 1))) (evVar 2)) (evCons (evVar 1) evNil))) (fcSeq (evCons (evBin ixAll (evVar 0) (evC (.int 4))) evNil))) evNil)) evNil)))))))
def f_parts_by : List SV → VH → EvR := evFun 3 2 b_parts_by
theorem sc_parts_by : FnScope ["wide", "head", "name", "spot", "place"] ["wide", "head", "name"] (defScope s_parts_by) := ⟨rfl, rfl, rfl, by decide +kernel, rfl, by decide +kernel, by decide +kernel⟩
theorem ok_parts_by (T : Txt K mg C base) : OkF C P w K mg base 5 (T.ad "parts_by") 3 f_parts_by :=
  ok_defC T.d_parts_by sc_parts_by rfl rfl fun A outer s H hr => by
    have S := sc_parts_by
    have hun := hr.un
    have hu9 : (A.deeper (envOfC "parts_by" (defScope s_parts_by) s.heap.objs.size (T.ad "parts_by") (.ref (T.ad "c_parts_by")))).units + 9 < cLine := by omega
    have hu10 : (A.deeper (envOfC "parts_by" (defScope s_parts_by) s.heap.objs.size (T.ad "parts_by") (.ref (T.ad "c_parts_by")))).units + 10 < cLine := by omega
    have hu64 : (A.deeper (envOfC "parts_by" (defScope s_parts_by) s.heap.objs.size (T.ad "parts_by") (.ref (T.ad "c_parts_by")))).units + 64 < cLine := by omega
    have hu66 : (A.deeper (envOfC "parts_by" (defScope s_parts_by) s.heap.objs.size (T.ad "parts_by") (.ref (T.ad "c_parts_by")))).units + 66 < cLine := by omega
    have hr0 := hr
    exact (ssCons (sIf (tCmp (op_notInAll hu66) notInAll_ok (xVar 1) (xIx hu9 (xVar 0) xInt)) (ssOne sNo) ssNil)
      (ssCons (sIf (tCmp (op_notInAll hu66) notInAll_ok (xVar 2) (xIx hu9 (xVar 0) xInt)) (ssOne sNo) ssNil)
      (ssCons (sAsg (xTup (aCons (xMeth (kd := .tup) PySem.F.plainAttrs_tuple PySem.F.slot_tuple_index PySem.F.type_tuple_index (mt_idxN hu66) idxP_ok (xIx hu9 (xVar 0) xInt) (aCons (xVar 1) aNil)) (aCons (xMeth (kd := .tup) PySem.F.plainAttrs_tuple PySem.F.slot_tuple_index PySem.F.type_tuple_index (mt_idxN hu66) idxP_ok (xIx hu9 (xVar 0) xInt) (aCons (xVar 2) aNil)) aNil))) (gMany [3, 4] rfl (gsCons 3 S.nd (gsCons 4 S.nd gsNil))))
      (ssOne (sRet (xAdd (xSl1 (xVar 0) xInt) (xTup (aCons (xCallT (call_tupAll rfl) tupleAll_ok T.b_tuple (by decide +kernel) (aCons (xSortL (k := 2) (js := [4, 3]) (fr := ["place", "spot"]) (N := ["row", "place", "spot"]) (x := "row") rfl (hr0.mono (by decide)) T.tb_parts_by rfl qual_nox T.t_parts_by T.u_parts_by T.b_sorted (NdefX.nscope_by (by decide +kernel)) rfl rfl (show NdefX.ndefB (defScope s_parts_by) _ _ = true from by decide +kernel) rfl rfl (fun _ _ _ _ _ _ => rfl) (gcSeq (aCons (xIx hu9 (xVar 0) xInt) aNil)) (fun f c' A s H hr => by
      have hu9 := hr.u9
      have hu10 := hr.u10
      have hu64 := hr.u64
      have hu66 := hr.u66
      have hr0 := hr
      exact (xCall (ok_cell_rank T) arity_fun (hr0.mono (by decide)) T.g_cell_rank (aCons (xIx hu9 (xIx hu9 (xVar 0) xInt) (xVar 2)) (aCons (xVar 1) aNil))))) aNil)) aNil))))))))
def b_value_text : SF := (evSeq (evIfS (evTest (evBin isNP (evVar 0) (evC .non))) (evRet (evC (.str "-"))) evSkip)
    (evSeq (evIfS (evTest (evArgs isiP (evCons (evVar 0) (evCons (evC (.ty "str")) evNil)))) (evRet (evBin addV (evBin addV (evC (.str "'")) (evMethK .str replP (evMethK .str replP (evVar 0) (evCons (evC (.str "\\")) (evCons (evBin addV (evC (.str "\\")) (evC (.str "\\"))) evNil))) (evCons (evC (.str "'")) (evCons (evBin addV (evC (.str "\\")) (evC (.str "'"))) evNil)))) (evC (.str "'")))) evSkip)
    (evRet (evArgs strP (evCons (evVar 0) evNil)))))
def f_value_text : List SV → VH → EvR := evFun 1 0 b_value_text
theorem sc_value_text : FnScope ["value"] ["value"] (defScope s_value_text) := ⟨rfl, rfl, rfl, by decide +kernel, rfl, by decide +kernel, by decide +kernel⟩
theorem ok_value_text (T : Txt K mg C base) : OkF C P w K mg base 1 (T.ad "value_text") 1 f_value_text :=
  ok_def T.d_value_text sc_value_text rfl rfl fun cdv A outer s H hr => by
    have S := sc_value_text
    have hun := hr.un
    have hu9 : (A.deeper (envOfC "value_text" (defScope s_value_text) s.heap.objs.size (T.ad "value_text") cdv)).units + 9 < cLine := by omega
    have hu10 : (A.deeper (envOfC "value_text" (defScope s_value_text) s.heap.objs.size (T.ad "value_text") cdv)).units + 10 < cLine := by omega
    have hu64 : (A.deeper (envOfC "value_text" (defScope s_value_text) s.heap.objs.size (T.ad "value_text") cdv)).units + 64 < cLine := by omega
    have hu66 : (A.deeper (envOfC "value_text" (defScope s_value_text) s.heap.objs.size (T.ad "value_text") cdv)).units + 66 < cLine := by omega
    have hr0 := hr
    exact (ssCons (sIf (tCmp op_isN isNP_ok (xVar 0) xNon) (ssOne (sRet xStr)) ssNil)
      (ssCons (sIf (tVal (xCallB call_isiAll isiP_ok T.b_isinstance (by decide +kernel) (aCons (xVar 0) (aCons (xTy T.b_str (by decide +kernel)) aNil)))) (ssOne (sRet (xAdd (xAdd (xGStr T.c_QUOTE) (xMeth (kd := .str) PySem.F.plainAttrs_str PySem.F.slot_str_replace PySem.F.type_str_replace mt_repl replP_ok (xMeth (kd := .str) PySem.F.plainAttrs_str PySem.F.slot_str_replace PySem.F.type_str_replace mt_repl replP_ok (xVar 0) (aCons (xGStr T.c_STROKE) (aCons (xAdd (xGStr T.c_STROKE) (xGStr T.c_STROKE)) aNil))) (aCons (xGStr T.c_QUOTE) (aCons (xAdd (xGStr T.c_STROKE) (xGStr T.c_QUOTE)) aNil)))) (xGStr T.c_QUOTE)))) ssNil)
      (ssOne (sRet (xCallT call_strI strP_ok T.b_str (by decide +kernel) (aCons (xVar 0) aNil))))))
def b_words_text : SF := (evRet (evMethK .str joinP (evC (.str " ")) (evCons (evBin addV (evArgs mkLst (evCons (evVar 0) evNil)) (evComp (evSeqI (evVar 1)) (.one 2) evYes (evArgs f_value_text (evCons (evVar 2) evNil)) [2])) evNil)))
def f_words_text : List SV → VH → EvR := evFun 2 1 b_words_text
theorem sc_words_text : FnScope ["word", "values", "value"] ["word", "values"] (defScope s_words_text) := ⟨rfl, rfl, rfl, by decide +kernel, rfl, by decide +kernel, by decide +kernel⟩
theorem ok_words_text (T : Txt K mg C base) : OkF C P w K mg base 2 (T.ad "words_text") 2 f_words_text :=
  ok_def T.d_words_text sc_words_text rfl rfl fun cdv A outer s H hr => by
    have S := sc_words_text
    have hun := hr.un
    have hu9 : (A.deeper (envOfC "words_text" (defScope s_words_text) s.heap.objs.size (T.ad "words_text") cdv)).units + 9 < cLine := by omega
    have hu10 : (A.deeper (envOfC "words_text" (defScope s_words_text) s.heap.objs.size (T.ad "words_text") cdv)).units + 10 < cLine := by omega
    have hu64 : (A.deeper (envOfC "words_text" (defScope s_words_text) s.heap.objs.size (T.ad "words_text") cdv)).units + 64 < cLine := by omega
    have hu66 : (A.deeper (envOfC "words_text" (defScope s_words_text) s.heap.objs.size (T.ad "words_text") cdv)).units + 66 < cLine := by omega
    have hr0 := hr
    exact (ssOne (sRet (xMeth (kd := .str) PySem.F.plainAttrs_str PySem.F.slot_str_join PySem.F.type_str_join mt_joinR joinP_ok xStr (aCons (xAdd (xLst (aCons (xVar 0) aNil)) (xLc [("value", 2)] rfl S.nd (iSeq (xVar 1)) (by kernel_rfl) (fun _ _ _ _ _ => (gOne 2 S.nd)) (fun _ _ _ _ _ => tsNil) (fun _ _ _ _ _ => (xCall (ok_value_text T) arity_fun (hr0.mono (by decide)) T.g_value_text (aCons (xVar 2) aNil))) (by decide))) aNil))))
def b_cell_text : SF := (evRet (evIf (evTest (evBin isNP (evVar 0) (evC .non))) (evBin addV (evC (.str ": ")) (evC (.str "_"))) (evArgs f_words_text (evCons (evC (.str ":")) (evCons (evVar 0) evNil)))))
def f_cell_text : List SV → VH → EvR := evFun 1 0 b_cell_text
theorem sc_cell_text : FnScope ["cell"] ["cell"] (defScope s_cell_text) := ⟨rfl, rfl, rfl, by decide +kernel, rfl, by decide +kernel, by decide +kernel⟩
theorem ok_cell_text (T : Txt K mg C base) : OkF C P w K mg base 3 (T.ad "cell_text") 1 f_cell_text :=
  ok_def T.d_cell_text sc_cell_text rfl rfl fun cdv A outer s H hr => by
    have S := sc_cell_text
    have hun := hr.un
    have hu9 : (A.deeper (envOfC "cell_text" (defScope s_cell_text) s.heap.objs.size (T.ad "cell_text") cdv)).units + 9 < cLine := by omega
    have hu10 : (A.deeper (envOfC "cell_text" (defScope s_cell_text) s.heap.objs.size (T.ad "cell_text") cdv)).units + 10 < cLine := by omega
    have hu64 : (A.deeper (envOfC "cell_text" (defScope s_cell_text) s.heap.objs.size (T.ad "cell_text") cdv)).units + 64 < cLine := by omega
    have hu66 : (A.deeper (envOfC "cell_text" (defScope s_cell_text) s.heap.objs.size (T.ad "cell_text") cdv)).units + 66 < cLine := by omega
    have hr0 := hr
    exact (ssOne (sRet (xIf (tCmp op_isN isNP_ok (xVar 0) xNon) (xAdd xStr (xGStr T.c_GAP)) (xCall (ok_words_text T) arity_fun (hr0.mono (by decide)) T.g_words_text (aCons xStr (aCons (xVar 0) aNil))))))
def b_wide_text : SF := (evSeq (evAsg (.many [1, 2, 3, 4, 5]) (evVar 0))
    (evSeq (evAsg (.one 6) (evArgs mkLst (evCons (evMethK .str joinP (evC (.str " ")) (evCons (evBin addV (evBin addV (evBin addV (evBin addV (evBin addV (evArgs mkTup (evCons (evC (.str "wide")) evNil)) (evVar 1)) (evArgs mkTup (evCons (evC (.str "/")) evNil))) (evVar 2)) (evArgs mkTup (evCons (evC (.str "/")) evNil))) (evVar 3)) evNil)) evNil)))
    (evSeq (evDrop (evMethK .lst extP (evVar 6) (evCons (evComp (evSeqI (evVar 4)) (.one 9) evYes (evArgs f_words_text (evCons (evC (.str "head")) (evCons (evVar 9) evNil))) [9]) evNil)))
    (evSeq (evFor (evSeqI (evVar 5)) (.many [7, 8]) (evDrop (evMethK .lst appP (evVar 6) (evCons (evMethK .str joinP (evC (.str " ")) (evCons (evBin addV (evArgs mkLst (evCons (evArgs f_words_text (evCons (evC (.str "part")) (evCons (evVar 7) evNil))) evNil)) (evComp (evSeqI (evVar 8)) (.one 10) evYes (evArgs f_cell_text (evCons (evVar 10) evNil)) [10])) evNil)) evNil))))
    (evRet (evMethK .str joinP (evC (.str "\n")) (evCons (evVar 6) evNil)))))))
def f_wide_text : List SV → VH → EvR := evFun 1 10 b_wide_text
theorem sc_wide_text : FnScope ["wide", "key", "names", "values", "heads", "rows", "texts", "part", "cells", "head", "cell"] ["wide"] (defScope s_wide_text) := ⟨rfl, rfl, rfl, by decide +kernel, rfl, by decide +kernel, by decide +kernel⟩
theorem ok_wide_text (T : Txt K mg C base) : OkF C P w K mg base 4 (T.ad "wide_text") 1 f_wide_text :=
  ok_def T.d_wide_text sc_wide_text rfl rfl fun cdv A outer s H hr => by
    have S := sc_wide_text
    have hun := hr.un
    have hu9 : (A.deeper (envOfC "wide_text" (defScope s_wide_text) s.heap.objs.size (T.ad "wide_text") cdv)).units + 9 < cLine := by omega
    have hu10 : (A.deeper (envOfC "wide_text" (defScope s_wide_text) s.heap.objs.size (T.ad "wide_text") cdv)).units + 10 < cLine := by omega
    have hu64 : (A.deeper (envOfC "wide_text" (defScope s_wide_text) s.heap.objs.size (T.ad "wide_text") cdv)).units + 64 < cLine := by omega
    have hu66 : (A.deeper (envOfC "wide_text" (defScope s_wide_text) s.heap.objs.size (T.ad "wide_text") cdv)).units + 66 < cLine := by omega
    have hr0 := hr
    exact (ssCons (sAsg (xVar 0) (gMany [1, 2, 3, 4, 5] rfl (gsCons 1 S.nd (gsCons 2 S.nd (gsCons 3 S.nd (gsCons 4 S.nd (gsCons 5 S.nd gsNil)))))))
      (ssCons (sSet 6 S.nd (xLst (aCons (xMeth (kd := .str) PySem.F.plainAttrs_str PySem.F.slot_str_join PySem.F.type_str_join mt_joinR joinP_ok xStr (aCons (xAdd (xAdd (xAdd (xAdd (xAdd (xTup (aCons xStr aNil)) (xVar 1)) (xTup (aCons xStr aNil))) (xVar 2)) (xTup (aCons xStr aNil))) (xVar 3)) aNil)) aNil)))
      (ssCons (sExpr (xMeth (kd := .lst) PySem.F.plainAttrs_list PySem.F.slot_list_extend PySem.F.type_list_extend mt_extend extP_ok (xVar 6) (aCons (xLc [("head", 9)] rfl S.nd (iSeq (xVar 4)) (by kernel_rfl) (fun _ _ _ _ _ => (gOne 9 S.nd)) (fun _ _ _ _ _ => tsNil) (fun _ _ _ _ _ => (xCall (ok_words_text T) arity_fun (hr0.mono (by decide)) T.g_words_text (aCons xStr (aCons (xVar 9) aNil)))) (by decide)) aNil)))
      (ssCons (sFor PassesOwn.never rfl (iSeq (xVar 5)) (gMany [7, 8] rfl (gsCons 7 S.nd (gsCons 8 S.nd gsNil))) (ssOne (sExpr (xMeth (kd := .lst) PySem.F.plainAttrs_list PySem.F.slot_list_append PySem.F.type_list_append mt_append appP_ok (xVar 6) (aCons (xMeth (kd := .str) PySem.F.plainAttrs_str PySem.F.slot_str_join PySem.F.type_str_join mt_joinR joinP_ok xStr (aCons (xAdd (xLst (aCons (xCall (ok_words_text T) arity_fun (hr0.mono (by decide)) T.g_words_text (aCons xStr (aCons (xVar 7) aNil))) aNil)) (xLc [("cell", 10)] rfl S.nd (iSeq (xVar 8)) (by kernel_rfl) (fun _ _ _ _ _ => (gOne 10 S.nd)) (fun _ _ _ _ _ => tsNil) (fun _ _ _ _ _ => (xCall (ok_cell_text T) arity_fun (hr0.mono (by decide)) T.g_cell_text (aCons (xVar 10) aNil))) (by decide))) aNil)) aNil)))))
      (ssOne (sRet (xMeth (kd := .str) PySem.F.plainAttrs_str PySem.F.slot_str_join PySem.F.type_str_join mt_joinR joinP_ok xStr (aCons (xVar 6) aNil))))))))
def b__law_same (rec : List SV → VH → EvR) : SF := (evSeq (evIfS (evTest (evArgs isiP (evCons (evVar 1) (evCons (evArgs mkTup (evCons (evC (.ty "list")) (evCons (evC (.ty "tuple")) evNil))) evNil)))) (evSeq (evIfS (evOr (evTest (evBin neP (evArgs isiP (evCons (evVar 0) (evCons (evC (.ty "list")) evNil))) (evArgs isiP (evCons (evVar 1) (evCons (evC (.ty "list")) evNil))))) (evTest (evBin neP (evArgs isiP (evCons (evVar 0) (evCons (evC (.ty "tuple")) evNil))) (evArgs isiP (evCons (evVar 1) (evCons (evC (.ty "tuple")) evNil)))))) (evRet (evC (.bl false))) evSkip)
    (evRet (evAndV (evBin eqP (evArgs lenAll (evCons (evVar 0) evNil)) (evArgs lenAll (evCons (evVar 1) evNil))) (evArgs allP (evCons (evComp (evZipI (evCons (evVar 0) (evCons (evVar 1) evNil))) (.many [2, 3]) evYes (evArgs rec (evCons (evVar 2) (evCons (evVar 3) evNil))) [2, 3]) evNil))))) evSkip)
    (evSeq (evIfS (evOr (evTest (evBin isNP (evVar 1) (evC .non))) (evTest (evArgs isiP (evCons (evVar 1) (evCons (evC (.ty "str")) evNil))))) (evRet (evAndV (evBin eqP (evVar 0) (evVar 1)) (evBin eqP (evArgs isiP (evCons (evVar 0) (evCons (evC (.ty "str")) evNil))) (evArgs isiP (evCons (evVar 1) (evCons (evC (.ty "str")) evNil)))))) evSkip)
    (evSeq (evIfS (evTest (evArgs isiP (evCons (evVar 1) (evCons (evC (.ty "bool")) evNil)))) (evRet (evAndV (evArgs isiP (evCons (evVar 0) (evCons (evC (.ty "bool")) evNil))) (evBin eqP (evVar 0) (evVar 1)))) evSkip)
    (evRet (evAndV (evArgs isiP (evCons (evVar 0) (evCons (evC (.ty "int")) evNil))) (evAndV (evNotV (evArgs isiP (evCons (evVar 0) (evCons (evC (.ty "bool")) evNil)))) (evBin eqP (evVar 0) (evVar 1))))))))
def f__law_same : Nat → List SV → VH → EvR
  | 0 => fun _ _ => none
  | k + 1 => evFun 2 2 (b__law_same (f__law_same k))
theorem sc__law_same : FnScope ["_law_found", "_law_due", "_law_one", "_law_other"] ["_law_found", "_law_due"] (defScope s__law_same) := ⟨rfl, rfl, rfl, by decide +kernel, rfl, by decide +kernel, by decide +kernel⟩
theorem arity_same : ∀ k, Arity 2 (f__law_same k)
  | 0 => arity_none
  | _ + 1 => arity_fun
theorem ok__law_same (T : Txt K mg C base) : ∀ k, OkF C P w K mg base k (T.ad "_law_same") 2 (f__law_same k)
  | 0 => ok_none T.d__law_same rfl
  | k + 1 => ok_def T.d__law_same sc__law_same rfl rfl fun cdv A outer s H hr => by
    have ih : OkF C P w K mg base k (T.ad "_law_same") 2 (f__law_same k) := ok__law_same T k
    have har := arity_same k
    have S := sc__law_same
    have hun := hr.un
    have hu9 : (A.deeper (envOfC "_law_same" (defScope s__law_same) s.heap.objs.size (T.ad "_law_same") cdv)).units + 9 < cLine := by omega
    have hu10 : (A.deeper (envOfC "_law_same" (defScope s__law_same) s.heap.objs.size (T.ad "_law_same") cdv)).units + 10 < cLine := by omega
    have hu64 : (A.deeper (envOfC "_law_same" (defScope s__law_same) s.heap.objs.size (T.ad "_law_same") cdv)).units + 64 < cLine := by omega
    have hu66 : (A.deeper (envOfC "_law_same" (defScope s__law_same) s.heap.objs.size (T.ad "_law_same") cdv)).units + 66 < cLine := by omega
    have hr0 := hr
    exact (ssCons (sIf (tVal (xCallB call_isiAll isiP_ok T.b_isinstance (by decide +kernel) (aCons (xVar 1) (aCons (xTup (aCons (xTy T.b_list (by decide +kernel)) (aCons (xTy T.b_tuple (by decide +kernel)) aNil))) aNil)))) (ssCons (sIf (PW.pt (wOr (tCmp (op_neD hu64) neP_ok (xCallB call_isiAll isiP_ok T.b_isinstance (by decide +kernel) (aCons (xVar 0) (aCons (xTy T.b_list (by decide +kernel)) aNil))) (xCallB call_isiAll isiP_ok T.b_isinstance (by decide +kernel) (aCons (xVar 1) (aCons (xTy T.b_list (by decide +kernel)) aNil)))) (wOr1 (tCmp (op_neD hu64) neP_ok (xCallB call_isiAll isiP_ok T.b_isinstance (by decide +kernel) (aCons (xVar 0) (aCons (xTy T.b_tuple (by decide +kernel)) aNil))) (xCallB call_isiAll isiP_ok T.b_isinstance (by decide +kernel) (aCons (xVar 1) (aCons (xTy T.b_tuple (by decide +kernel)) aNil))))))) (ssOne (sRet xBl)) ssNil)
      (ssOne (sRet (xAnd (xCmp (op_eqD hu64) eqP_ok (xCallB call_lenAll lenAll_ok T.b_len (by decide +kernel) (aCons (xVar 0) aNil)) (xCallB call_lenAll lenAll_ok T.b_len (by decide +kernel) (aCons (xVar 1) aNil))) (xAnd1 (xCallB (cr_all rfl) allP_ok T.b_all (by decide +kernel) (aCons (xLc [("_law_one", 2), ("_law_other", 3)] rfl S.nd (iZip T.b_zip (aCons (xVar 0) (aCons (xVar 1) aNil))) (by kernel_rfl) (fun _ _ _ _ _ => (gMany [2, 3] rfl (gsCons 2 S.nd (gsCons 3 S.nd gsNil)))) (fun _ _ _ _ _ => tsNil) (fun _ _ _ _ _ => (xCall ih har hr0 T.g__law_same (aCons (xVar 2) (aCons (xVar 3) aNil)))) (by decide)) aNil))))))) ssNil)
      (ssCons (sIf (PW.pt (wOr (tCmp op_isN isNP_ok (xVar 1) xNon) (wOr1 (tVal (xCallB call_isiAll isiP_ok T.b_isinstance (by decide +kernel) (aCons (xVar 1) (aCons (xTy T.b_str (by decide +kernel)) aNil))))))) (ssOne (sRet (xAnd (xCmp (op_eqD hu64) eqP_ok (xVar 0) (xVar 1)) (xAnd1 (xCmp (op_eqD hu64) eqP_ok (xCallB call_isiAll isiP_ok T.b_isinstance (by decide +kernel) (aCons (xVar 0) (aCons (xTy T.b_str (by decide +kernel)) aNil))) (xCallB call_isiAll isiP_ok T.b_isinstance (by decide +kernel) (aCons (xVar 1) (aCons (xTy T.b_str (by decide +kernel)) aNil)))))))) ssNil)
      (ssCons (sIf (tVal (xCallB call_isiAll isiP_ok T.b_isinstance (by decide +kernel) (aCons (xVar 1) (aCons (xTy T.b_bool (by decide +kernel)) aNil)))) (ssOne (sRet (xAnd (xCallB call_isiAll isiP_ok T.b_isinstance (by decide +kernel) (aCons (xVar 0) (aCons (xTy T.b_bool (by decide +kernel)) aNil))) (xAnd1 (xCmp (op_eqD hu64) eqP_ok (xVar 0) (xVar 1)))))) ssNil)
      (ssOne (sRet (xAnd (xCallB call_isiAll isiP_ok T.b_isinstance (by decide +kernel) (aCons (xVar 0) (aCons (xTy T.b_int (by decide +kernel)) aNil))) (xAnd (xNot (xCallB call_isiAll isiP_ok T.b_isinstance (by decide +kernel) (aCons (xVar 0) (aCons (xTy T.b_bool (by decide +kernel)) aNil)))) (xAnd1 (xCmp (op_eqD hu64) eqP_ok (xVar 0) (xVar 1))))))))))
def b__law_sales : SF := (evSeq (evAsg (.one 0) (evArgs mkTup (evCons (evArgs mkTup (evCons (evC (.str "oslo")) (evCons (evC (.int 2024)) (evCons (evC (.str "may")) (evCons (evC (.str "tea")) (evCons (evC (.int 5)) (evCons (evC (.int 50)) evNil))))))) (evCons (evArgs mkTup (evCons (evC (.str "rome")) (evCons (evC (.int 2024)) (evCons (evC (.str "may")) (evCons (evC (.str "tea")) (evCons (evC (.int 2)) (evCons (evC (.int 22)) evNil))))))) evNil))))
    (evSeq (evAsg (.one 0) (evBin addV (evVar 0) (evArgs mkTup (evCons (evArgs mkTup (evCons (evC (.str "oslo")) (evCons (evC (.int 2024)) (evCons (evC (.str "june")) (evCons (evC (.str "tea")) (evCons (evC (.int 4)) (evCons (evC (.int 40)) evNil))))))) (evCons (evArgs mkTup (evCons (evC (.str "rome")) (evCons (evC (.int 2025)) (evCons (evC (.str "may")) (evCons (evC (.str "tea")) (evCons (evC (.int 7)) (evCons (evC (.int 70)) evNil))))))) evNil)))))
    (evSeq (evAsg (.one 0) (evBin addV (evVar 0) (evArgs mkTup (evCons (evArgs mkTup (evCons (evC (.str "oslo")) (evCons (evC (.int 2025)) (evCons (evC (.str "may")) (evCons (evC (.str "milk")) (evCons (evC (.int 1)) (evCons (evC (.int 3)) evNil))))))) (evCons (evArgs mkTup (evCons (evC (.str "bern")) (evCons (evC (.int 2024)) (evCons (evC (.str "june")) (evCons (evC (.str "tea")) (evCons (evC (.int 3)) (evCons (evC (.int 33)) evNil))))))) evNil)))))
    (evSeq (evAsg (.one 0) (evBin addV (evVar 0) (evArgs mkTup (evCons (evArgs mkTup (evCons (evC (.str "oslo")) (evCons (evC (.int 2025)) (evCons (evC (.str "may")) (evCons (evC (.str "tea")) (evCons (evC (.int 6)) (evCons (evC .non) evNil))))))) (evCons (evArgs mkTup (evCons (evC (.str "bern")) (evCons (evC (.int 2025)) (evCons (evC (.str "july")) (evCons (evC (.str "salt")) (evCons (evC (.int 9)) (evCons (evC (.int 9)) evNil))))))) evNil)))))
    (evSeq (evAsg (.one 0) (evBin addV (evVar 0) (evArgs mkTup (evCons (evArgs mkTup (evCons (evC (.str "rome")) (evCons (evC (.int 2024)) (evCons (evC (.str "may")) (evCons (evC (.str "tea")) (evCons (evC (.int 1)) (evCons (evC (.int 9)) evNil))))))) evNil))))
    (evRet (evArgs mkTup (evCons (evArgs mkTup (evCons (evC (.str "town")) (evCons (evC (.str "year")) (evCons (evC (.str "month")) (evCons (evC (.str "good")) (evCons (evC (.str "many")) (evCons (evC (.str "paid")) evNil))))))) (evCons (evVar 0) evNil)))))))))
def f__law_sales : List SV → VH → EvR := evFun 0 1 b__law_sales
theorem sc__law_sales : FnScope ["_law_rows"] [] (defScope s__law_sales) := ⟨rfl, rfl, rfl, by decide +kernel, rfl, by decide +kernel, by decide +kernel⟩
theorem ok__law_sales (T : Txt K mg C base) : OkF C P w K mg base 1 (T.ad "_law_sales") 0 f__law_sales :=
  ok_def T.d__law_sales sc__law_sales rfl rfl fun cdv A outer s H hr => by
    have S := sc__law_sales
    have hun := hr.un
    have hu9 : (A.deeper (envOfC "_law_sales" (defScope s__law_sales) s.heap.objs.size (T.ad "_law_sales") cdv)).units + 9 < cLine := by omega
    have hu10 : (A.deeper (envOfC "_law_sales" (defScope s__law_sales) s.heap.objs.size (T.ad "_law_sales") cdv)).units + 10 < cLine := by omega
    have hu64 : (A.deeper (envOfC "_law_sales" (defScope s__law_sales) s.heap.objs.size (T.ad "_law_sales") cdv)).units + 64 < cLine := by omega
    have hu66 : (A.deeper (envOfC "_law_sales" (defScope s__law_sales) s.heap.objs.size (T.ad "_law_sales") cdv)).units + 66 < cLine := by omega
    have hr0 := hr
    exact (ssCons (sSet 0 S.nd (xTup (aCons (xTup (aCons xStr (aCons xInt (aCons xStr (aCons xStr (aCons xInt (aCons xInt aNil))))))) (aCons (xTup (aCons xStr (aCons xInt (aCons xStr (aCons xStr (aCons xInt (aCons xInt aNil))))))) aNil))))
      (ssCons (sSet 0 S.nd (xAdd (xVar 0) (xTup (aCons (xTup (aCons xStr (aCons xInt (aCons xStr (aCons xStr (aCons xInt (aCons xInt aNil))))))) (aCons (xTup (aCons xStr (aCons xInt (aCons xStr (aCons xStr (aCons xInt (aCons xInt aNil))))))) aNil)))))
      (ssCons (sSet 0 S.nd (xAdd (xVar 0) (xTup (aCons (xTup (aCons xStr (aCons xInt (aCons xStr (aCons xStr (aCons xInt (aCons xInt aNil))))))) (aCons (xTup (aCons xStr (aCons xInt (aCons xStr (aCons xStr (aCons xInt (aCons xInt aNil))))))) aNil)))))
      (ssCons (sSet 0 S.nd (xAdd (xVar 0) (xTup (aCons (xTup (aCons xStr (aCons xInt (aCons xStr (aCons xStr (aCons xInt (aCons xNon aNil))))))) (aCons (xTup (aCons xStr (aCons xInt (aCons xStr (aCons xStr (aCons xInt (aCons xInt aNil))))))) aNil)))))
      (ssCons (sSet 0 S.nd (xAdd (xVar 0) (xTup (aCons (xTup (aCons xStr (aCons xInt (aCons xStr (aCons xStr (aCons xInt (aCons xInt aNil))))))) aNil))))
      (ssOne (sRet (xTup (aCons (xTup (aCons xStr (aCons xStr (aCons xStr (aCons xStr (aCons xStr (aCons xStr aNil))))))) (aCons (xVar 0) aNil))))))))))
def b__law_few : SF := (evSeq (evAsg (.one 0) (evArgs f__law_sales evNil))
    (evRet (evArgs mkTup (evCons (evArgs mkTup (evCons (evC (.str "town")) (evCons (evC (.str "year")) (evCons (evC (.str "month")) (evCons (evC (.str "many")) evNil))))) (evCons (evArgs tupleAll (evCons (evComp (evSeqI (evBin ixAll (evVar 0) (evC (.int 1)))) (.one 1) evYes (evBin addV (evSl none (some (evC (.int 3))) (evVar 1)) (evSl (some (evC (.int 4))) (some (evC (.int 5))) (evVar 1))) [1]) evNil)) evNil)))))
def f__law_few : List SV → VH → EvR := evFun 0 2 b__law_few
theorem sc__law_few : FnScope ["_law_table", "_law_row"] [] (defScope s__law_few) := ⟨rfl, rfl, rfl, by decide +kernel, rfl, by decide +kernel, by decide +kernel⟩
theorem ok__law_few (T : Txt K mg C base) : OkF C P w K mg base 2 (T.ad "_law_few") 0 f__law_few :=
  ok_def T.d__law_few sc__law_few rfl rfl fun cdv A outer s H hr => by
    have S := sc__law_few
    have hun := hr.un
    have hu9 : (A.deeper (envOfC "_law_few" (defScope s__law_few) s.heap.objs.size (T.ad "_law_few") cdv)).units + 9 < cLine := by omega
    have hu10 : (A.deeper (envOfC "_law_few" (defScope s__law_few) s.heap.objs.size (T.ad "_law_few") cdv)).units + 10 < cLine := by omega
    have hu64 : (A.deeper (envOfC "_law_few" (defScope s__law_few) s.heap.objs.size (T.ad "_law_few") cdv)).units + 64 < cLine := by omega
    have hu66 : (A.deeper (envOfC "_law_few" (defScope s__law_few) s.heap.objs.size (T.ad "_law_few") cdv)).units + 66 < cLine := by omega
    have hr0 := hr
    exact (ssCons (sSet 0 S.nd (xCall0 (ok__law_sales T) arity_fun (hr0.mono (by decide)) T.g__law_sales))
      (ssOne (sRet (xTup (aCons (xTup (aCons xStr (aCons xStr (aCons xStr (aCons xStr aNil))))) (aCons (xCallT (call_tupAll rfl) tupleAll_ok T.b_tuple (by decide +kernel) (aCons (xLc [("_law_row", 1)] rfl S.nd (iSeq (xIx hu9 (xVar 0) xInt)) (by kernel_rfl) (fun _ _ _ _ _ => (gOne 1 S.nd)) (fun _ _ _ _ _ => tsNil) (fun _ _ _ _ _ => (xAdd (xSl1 (xVar 1) xInt) (xSl2 (xVar 1) xInt xInt))) (by decide)) aNil)) aNil))))))
def b__law_by_town : SF := (evRet (evArgs f_folded_by (evCons (evArgs f__law_few evNil) (evCons (evArgs mkLst (evCons (evC (.str "town")) evNil)) (evCons (evArgs mkLst (evCons (evC (.str "year")) (evCons (evC (.str "month")) evNil))) (evCons (evArgs mkLst (evCons (evC (.str "many")) evNil)) (evCons (evArgs mkLst (evCons (evC (.str "sum")) evNil)) (evCons (evC (.str "seen")) evNil))))))))
def f__law_by_town : List SV → VH → EvR := evFun 0 0 b__law_by_town
theorem sc__law_by_town : FnScope [] [] (defScope s__law_by_town) := ⟨rfl, rfl, rfl, by decide +kernel, rfl, by decide +kernel, by decide +kernel⟩
theorem ok__law_by_town (T : Txt K mg C base) : OkF C P w K mg base 7 (T.ad "_law_by_town") 0 f__law_by_town :=
  ok_def T.d__law_by_town sc__law_by_town rfl rfl fun cdv A outer s H hr => by
    have S := sc__law_by_town
    have hun := hr.un
    have hu9 : (A.deeper (envOfC "_law_by_town" (defScope s__law_by_town) s.heap.objs.size (T.ad "_law_by_town") cdv)).units + 9 < cLine := by omega
    have hu10 : (A.deeper (envOfC "_law_by_town" (defScope s__law_by_town) s.heap.objs.size (T.ad "_law_by_town") cdv)).units + 10 < cLine := by omega
    have hu64 : (A.deeper (envOfC "_law_by_town" (defScope s__law_by_town) s.heap.objs.size (T.ad "_law_by_town") cdv)).units + 64 < cLine := by omega
    have hu66 : (A.deeper (envOfC "_law_by_town" (defScope s__law_by_town) s.heap.objs.size (T.ad "_law_by_town") cdv)).units + 66 < cLine := by omega
    have hr0 := hr
    exact (ssOne (sRet (xCall (ok_folded_by T) arity_fun (hr0.mono (by decide)) T.g_folded_by (aCons (xCall0 (ok__law_few T) arity_fun (hr0.mono (by decide)) T.g__law_few) (aCons (xLst (aCons xStr aNil)) (aCons (xLst (aCons xStr (aCons xStr aNil))) (aCons (xLst (aCons xStr aNil)) (aCons (xLst (aCons xStr aNil)) (aCons xStr aNil)))))))))
def b__law_first : SF := (evSeq (evIfS (evTest (evBin eqP (evVar 0) (evC (.int 0)))) (evSeq (evAsg (.one 1) (evArgs mkTup (evCons (evArgs mkTup (evCons (evC (.int 2024)) (evCons (evC (.str "may")) evNil))) (evCons (evArgs mkTup (evCons (evC (.int 2024)) (evCons (evC (.str "june")) evNil))) (evCons (evArgs mkTup (evCons (evC (.int 2025)) (evCons (evC (.str "may")) evNil))) (evCons (evArgs mkTup (evCons (evC (.int 2025)) (evCons (evC (.str "july")) evNil))) evNil))))))
    (evSeq (evAsg (.one 2) (evArgs mkTup (evCons (evArgs mkTup (evCons (evArgs mkTup (evCons (evC (.str "oslo")) evNil)) (evCons (evArgs mkTup (evCons (evArgs mkTup (evCons (evC (.int 5)) evNil)) (evCons (evArgs mkTup (evCons (evC (.int 4)) evNil)) (evCons (evArgs mkTup (evCons (evC (.int 7)) evNil)) (evCons (evC .non) evNil))))) evNil))) (evCons (evArgs mkTup (evCons (evArgs mkTup (evCons (evC (.str "rome")) evNil)) (evCons (evArgs mkTup (evCons (evArgs mkTup (evCons (evC (.int 3)) evNil)) (evCons (evC .non) (evCons (evArgs mkTup (evCons (evC (.int 7)) evNil)) (evCons (evC .non) evNil))))) evNil))) evNil))))
    (evSeq (evAsg (.one 2) (evBin addV (evVar 2) (evArgs mkTup (evCons (evArgs mkTup (evCons (evArgs mkTup (evCons (evC (.str "bern")) evNil)) (evCons (evArgs mkTup (evCons (evC .non) (evCons (evArgs mkTup (evCons (evC (.int 3)) evNil)) (evCons (evC .non) (evCons (evArgs mkTup (evCons (evC (.int 9)) evNil)) evNil))))) evNil))) evNil))))
    (evRet (evArgs mkTup (evCons (evArgs mkLst (evCons (evArgs f__law_by_town evNil) evNil)) (evCons (evArgs mkLst (evCons (evArgs mkTup (evCons (evArgs mkTup (evCons (evC (.str "town")) evNil)) (evCons (evArgs mkTup (evCons (evC (.str "year")) (evCons (evC (.str "month")) evNil))) (evCons (evArgs mkTup (evCons (evC (.str "many")) evNil)) (evCons (evVar 1) (evCons (evVar 2) evNil)))))) evNil)) evNil))))))) evSkip)
    (evSeq (evIfS (evTest (evBin eqP (evVar 0) (evC (.int 1)))) (evSeq (evAsg (.one 3) (evArgs f_sources (evCons (evArgs f__law_few evNil) (evCons (evArgs mkLst (evCons (evC (.str "town")) evNil)) (evCons (evArgs mkLst (evCons (evC (.str "year")) (evCons (evC (.str "month")) evNil))) (evCons (evC (.str "seen")) evNil))))))
    (evRet (evArgs mkTup (evCons (evArgs mkLst (evCons (evVar 3) evNil)) (evCons (evArgs mkLst (evCons (evArgs mkTup (evCons (evArgs mkTup (evCons (evArgs mkTup (evCons (evC (.int 0)) evNil)) (evCons (evArgs mkTup (evCons (evC (.int 2)) evNil)) (evCons (evArgs mkTup (evCons (evC (.int 4)) (evCons (evC (.int 6)) evNil))) (evCons (evArgs mkTup evNil) evNil))))) (evCons (evArgs mkTup (evCons (evArgs mkTup (evCons (evC (.int 1)) (evCons (evC (.int 8)) evNil))) (evCons (evArgs mkTup evNil) (evCons (evArgs mkTup (evCons (evC (.int 3)) evNil)) (evCons (evArgs mkTup evNil) evNil))))) (evCons (evArgs mkTup (evCons (evArgs mkTup evNil) (evCons (evArgs mkTup (evCons (evC (.int 5)) evNil)) (evCons (evArgs mkTup evNil) (evCons (evArgs mkTup (evCons (evC (.int 7)) evNil)) evNil))))) evNil)))) evNil)) evNil))))) evSkip)
    (evSeq (evIfS (evTest (evBin eqP (evVar 0) (evC (.int 2)))) (evSeq (evAsg (.one 4) (evArgs mkLst (evCons (evArgs mkTup (evCons (evArgs mkTup (evCons (evC (.str "rome")) evNil)) (evCons (evArgs mkTup (evCons (evC (.int 2024)) (evCons (evC (.str "june")) evNil))) evNil))) (evCons (evArgs mkTup (evCons (evArgs mkTup (evCons (evC (.str "bern")) evNil)) (evCons (evArgs mkTup (evCons (evC (.int 2024)) (evCons (evC (.str "may")) evNil))) evNil))) (evCons (evArgs mkTup (evCons (evArgs mkTup (evCons (evC (.str "bern")) evNil)) (evCons (evArgs mkTup (evCons (evC (.int 2025)) (evCons (evC (.str "may")) evNil))) evNil))) evNil)))))
    (evSeq (evAsg (.one 4) (evBin addV (evBin addV (evBin addV (evArgs mkLst (evCons (evArgs mkTup (evCons (evArgs mkTup (evCons (evC (.str "oslo")) evNil)) (evCons (evArgs mkTup (evCons (evC (.int 2025)) (evCons (evC (.str "july")) evNil))) evNil))) evNil)) (evSl none (some (evC (.int 1))) (evVar 4))) (evArgs mkLst (evCons (evArgs mkTup (evCons (evArgs mkTup (evCons (evC (.str "rome")) evNil)) (evCons (evArgs mkTup (evCons (evC (.int 2025)) (evCons (evC (.str "july")) evNil))) evNil))) evNil))) (evSl (some (evC (.int 1))) none (evVar 4))))
    (evRet (evArgs mkTup (evCons (evArgs mkLst (evCons (evArgs f_gaps (evCons (evArgs f__law_by_town evNil) evNil)) evNil)) (evCons (evArgs mkLst (evCons (evVar 4) evNil)) evNil)))))) evSkip)
    (evSeq (evAsg (.many [5, 6, 7]) (evArgs f_margins (evCons (evArgs f__law_by_town evNil) (evCons (evArgs mkLst (evCons (evC (.str "sum")) evNil)) evNil))))
    (evSeq (evAsg (.one 2) (evArgs mkTup (evCons (evArgs mkTup (evCons (evArgs mkTup (evCons (evC (.str "oslo")) evNil)) (evCons (evArgs mkTup (evCons (evArgs mkTup (evCons (evC (.int 16)) evNil)) evNil)) evNil))) (evCons (evArgs mkTup (evCons (evArgs mkTup (evCons (evC (.str "rome")) evNil)) (evCons (evArgs mkTup (evCons (evArgs mkTup (evCons (evC (.int 10)) evNil)) evNil)) evNil))) (evCons (evArgs mkTup (evCons (evArgs mkTup (evCons (evC (.str "bern")) evNil)) (evCons (evArgs mkTup (evCons (evArgs mkTup (evCons (evC (.int 12)) evNil)) evNil)) evNil))) evNil)))))
    (evSeq (evAsg (.one 4) (evArgs mkLst (evCons (evVar 2) (evCons (evArgs mkTup (evCons (evArgs mkTup (evCons (evArgs mkTup evNil) (evCons (evArgs mkTup (evCons (evArgs mkTup (evCons (evC (.int 8)) evNil)) (evCons (evArgs mkTup (evCons (evC (.int 7)) evNil)) (evCons (evArgs mkTup (evCons (evC (.int 14)) evNil)) (evCons (evArgs mkTup (evCons (evC (.int 9)) evNil)) evNil))))) evNil))) evNil)) (evCons (evArgs mkTup (evCons (evArgs mkTup (evCons (evArgs mkTup evNil) (evCons (evArgs mkTup (evCons (evArgs mkTup (evCons (evC (.int 38)) evNil)) evNil)) evNil))) evNil)) evNil)))))
    (evRet (evArgs mkTup (evCons (evArgs mkLst (evCons (evBin ixAll (evVar 5) (evC (.int 4))) (evCons (evBin ixAll (evVar 6) (evC (.int 4))) (evCons (evBin ixAll (evVar 7) (evC (.int 4))) evNil)))) (evCons (evVar 4) evNil))))))))))
def f__law_first : List SV → VH → EvR := evFun 1 7 b__law_first
theorem sc__law_first : FnScope ["_law_which", "_law_heads", "_law_rows", "_law_told", "_law_due", "_law_right", "_law_below", "_law_corner"] ["_law_which"] (defScope s__law_first) := ⟨rfl, rfl, rfl, by decide +kernel, rfl, by decide +kernel, by decide +kernel⟩
theorem ok__law_first (T : Txt K mg C base) : OkF C P w K mg base 8 (T.ad "_law_first") 1 f__law_first :=
  ok_def T.d__law_first sc__law_first rfl rfl fun cdv A outer s H hr => by
    have S := sc__law_first
    have hun := hr.un
    have hu9 : (A.deeper (envOfC "_law_first" (defScope s__law_first) s.heap.objs.size (T.ad "_law_first") cdv)).units + 9 < cLine := by omega
    have hu10 : (A.deeper (envOfC "_law_first" (defScope s__law_first) s.heap.objs.size (T.ad "_law_first") cdv)).units + 10 < cLine := by omega
    have hu64 : (A.deeper (envOfC "_law_first" (defScope s__law_first) s.heap.objs.size (T.ad "_law_first") cdv)).units + 64 < cLine := by omega
    have hu66 : (A.deeper (envOfC "_law_first" (defScope s__law_first) s.heap.objs.size (T.ad "_law_first") cdv)).units + 66 < cLine := by omega
    have hr0 := hr
    exact (ssCons (sIf (tCmp (op_eqD hu64) eqP_ok (xVar 0) xInt) (ssCons (sSet 1 S.nd (xTup (aCons (xTup (aCons xInt (aCons xStr aNil))) (aCons (xTup (aCons xInt (aCons xStr aNil))) (aCons (xTup (aCons xInt (aCons xStr aNil))) (aCons (xTup (aCons xInt (aCons xStr aNil))) aNil))))))
      (ssCons (sSet 2 S.nd (xTup (aCons (xTup (aCons (xTup (aCons xStr aNil)) (aCons (xTup (aCons (xTup (aCons xInt aNil)) (aCons (xTup (aCons xInt aNil)) (aCons (xTup (aCons xInt aNil)) (aCons xNon aNil))))) aNil))) (aCons (xTup (aCons (xTup (aCons xStr aNil)) (aCons (xTup (aCons (xTup (aCons xInt aNil)) (aCons xNon (aCons (xTup (aCons xInt aNil)) (aCons xNon aNil))))) aNil))) aNil))))
      (ssCons (sSet 2 S.nd (xAdd (xVar 2) (xTup (aCons (xTup (aCons (xTup (aCons xStr aNil)) (aCons (xTup (aCons xNon (aCons (xTup (aCons xInt aNil)) (aCons xNon (aCons (xTup (aCons xInt aNil)) aNil))))) aNil))) aNil))))
      (ssOne (sRet (xTup (aCons (xLst (aCons (xCall0 (ok__law_by_town T) arity_fun (hr0.mono (by decide)) T.g__law_by_town) aNil)) (aCons (xLst (aCons (xTup (aCons (xTup (aCons xStr aNil)) (aCons (xTup (aCons xStr (aCons xStr aNil))) (aCons (xTup (aCons xStr aNil)) (aCons (xVar 1) (aCons (xVar 2) aNil)))))) aNil)) aNil)))))))) ssNil)
      (ssCons (sIf (tCmp (op_eqD hu64) eqP_ok (xVar 0) xInt) (ssCons (sSet 3 S.nd (xCall (ok_sources T) arity_fun (hr0.mono (by decide)) T.g_sources (aCons (xCall0 (ok__law_few T) arity_fun (hr0.mono (by decide)) T.g__law_few) (aCons (xLst (aCons xStr aNil)) (aCons (xLst (aCons xStr (aCons xStr aNil))) (aCons xStr aNil))))))
      (ssOne (sRet (xTup (aCons (xLst (aCons (xVar 3) aNil)) (aCons (xLst (aCons (xTup (aCons (xTup (aCons (xTup (aCons xInt aNil)) (aCons (xTup (aCons xInt aNil)) (aCons (xTup (aCons xInt (aCons xInt aNil))) (aCons (xTup aNil) aNil))))) (aCons (xTup (aCons (xTup (aCons xInt (aCons xInt aNil))) (aCons (xTup aNil) (aCons (xTup (aCons xInt aNil)) (aCons (xTup aNil) aNil))))) (aCons (xTup (aCons (xTup aNil) (aCons (xTup (aCons xInt aNil)) (aCons (xTup aNil) (aCons (xTup (aCons xInt aNil)) aNil))))) aNil)))) aNil)) aNil)))))) ssNil)
      (ssCons (sIf (tCmp (op_eqD hu64) eqP_ok (xVar 0) xInt) (ssCons (sSet 4 S.nd (xLst (aCons (xTup (aCons (xTup (aCons xStr aNil)) (aCons (xTup (aCons xInt (aCons xStr aNil))) aNil))) (aCons (xTup (aCons (xTup (aCons xStr aNil)) (aCons (xTup (aCons xInt (aCons xStr aNil))) aNil))) (aCons (xTup (aCons (xTup (aCons xStr aNil)) (aCons (xTup (aCons xInt (aCons xStr aNil))) aNil))) aNil)))))
      (ssCons (sSet 4 S.nd (xAdd (xAdd (xAdd (xLst (aCons (xTup (aCons (xTup (aCons xStr aNil)) (aCons (xTup (aCons xInt (aCons xStr aNil))) aNil))) aNil)) (xSl1 (xVar 4) xInt)) (xLst (aCons (xTup (aCons (xTup (aCons xStr aNil)) (aCons (xTup (aCons xInt (aCons xStr aNil))) aNil))) aNil))) (xSl0 (xVar 4) xInt)))
      (ssOne (sRet (xTup (aCons (xLst (aCons (xCall (ok_gaps T) arity_fun (hr0.mono (by decide)) T.g_gaps (aCons (xCall0 (ok__law_by_town T) arity_fun (hr0.mono (by decide)) T.g__law_by_town) aNil)) aNil)) (aCons (xLst (aCons (xVar 4) aNil)) aNil))))))) ssNil)
      (ssCons (sAsg (xCall (ok_margins T) arity_fun (hr0.mono (by decide)) T.g_margins (aCons (xCall0 (ok__law_by_town T) arity_fun (hr0.mono (by decide)) T.g__law_by_town) (aCons (xLst (aCons xStr aNil)) aNil))) (gMany [5, 6, 7] rfl (gsCons 5 S.nd (gsCons 6 S.nd (gsCons 7 S.nd gsNil)))))
      (ssCons (sSet 2 S.nd (xTup (aCons (xTup (aCons (xTup (aCons xStr aNil)) (aCons (xTup (aCons (xTup (aCons xInt aNil)) aNil)) aNil))) (aCons (xTup (aCons (xTup (aCons xStr aNil)) (aCons (xTup (aCons (xTup (aCons xInt aNil)) aNil)) aNil))) (aCons (xTup (aCons (xTup (aCons xStr aNil)) (aCons (xTup (aCons (xTup (aCons xInt aNil)) aNil)) aNil))) aNil)))))
      (ssCons (sSet 4 S.nd (xLst (aCons (xVar 2) (aCons (xTup (aCons (xTup (aCons (xTup aNil) (aCons (xTup (aCons (xTup (aCons xInt aNil)) (aCons (xTup (aCons xInt aNil)) (aCons (xTup (aCons xInt aNil)) (aCons (xTup (aCons xInt aNil)) aNil))))) aNil))) aNil)) (aCons (xTup (aCons (xTup (aCons (xTup aNil) (aCons (xTup (aCons (xTup (aCons xInt aNil)) aNil)) aNil))) aNil)) aNil)))))
      (ssOne (sRet (xTup (aCons (xLst (aCons (xIx hu9 (xVar 5) xInt) (aCons (xIx hu9 (xVar 6) xInt) (aCons (xIx hu9 (xVar 7) xInt) aNil)))) (aCons (xVar 4) aNil)))))))))))
def b__law_second : SF := (evSeq (evAsg (.one 1) (evArgs f__law_by_town evNil))
    (evSeq (evIfS (evTest (evBin eqP (evVar 0) (evC (.int 4)))) (evSeq (evAsg (.one 2) (evArgs f_to_key (evCons (evVar 1) (evCons (evC (.str "year")) evNil))))
    (evSeq (evAsg (.one 3) (evArgs mkTup (evCons (evArgs mkTup (evCons (evArgs mkTup (evCons (evC (.str "oslo")) (evCons (evC (.int 2024)) evNil))) (evCons (evArgs mkTup (evCons (evArgs mkTup (evCons (evC (.int 5)) evNil)) (evCons (evArgs mkTup (evCons (evC (.int 4)) evNil)) (evCons (evC .non) evNil)))) evNil))) (evCons (evArgs mkTup (evCons (evArgs mkTup (evCons (evC (.str "oslo")) (evCons (evC (.int 2025)) evNil))) (evCons (evArgs mkTup (evCons (evArgs mkTup (evCons (evC (.int 7)) evNil)) (evCons (evC .non) (evCons (evC .non) evNil)))) evNil))) evNil))))
    (evSeq (evAsg (.one 3) (evBin addV (evVar 3) (evArgs mkTup (evCons (evArgs mkTup (evCons (evArgs mkTup (evCons (evC (.str "rome")) (evCons (evC (.int 2024)) evNil))) (evCons (evArgs mkTup (evCons (evArgs mkTup (evCons (evC (.int 3)) evNil)) (evCons (evC .non) (evCons (evC .non) evNil)))) evNil))) (evCons (evArgs mkTup (evCons (evArgs mkTup (evCons (evC (.str "rome")) (evCons (evC (.int 2025)) evNil))) (evCons (evArgs mkTup (evCons (evArgs mkTup (evCons (evC (.int 7)) evNil)) (evCons (evC .non) (evCons (evC .non) evNil)))) evNil))) evNil)))))
    (evSeq (evAsg (.one 3) (evBin addV (evVar 3) (evArgs mkTup (evCons (evArgs mkTup (evCons (evArgs mkTup (evCons (evC (.str "bern")) (evCons (evC (.int 2024)) evNil))) (evCons (evArgs mkTup (evCons (evC .non) (evCons (evArgs mkTup (evCons (evC (.int 3)) evNil)) (evCons (evC .non) evNil)))) evNil))) (evCons (evArgs mkTup (evCons (evArgs mkTup (evCons (evC (.str "bern")) (evCons (evC (.int 2025)) evNil))) (evCons (evArgs mkTup (evCons (evC .non) (evCons (evC .non) (evCons (evArgs mkTup (evCons (evC (.int 9)) evNil)) evNil)))) evNil))) evNil)))))
    (evRet (evArgs mkTup (evCons (evArgs mkLst (evCons (evBin ixAll (evVar 2) (evC (.int 0))) (evCons (evBin ixAll (evVar 2) (evC (.int 3))) (evCons (evBin ixAll (evVar 2) (evC (.int 4))) evNil)))) (evCons (evArgs mkLst (evCons (evArgs mkTup (evCons (evC (.str "town")) (evCons (evC (.str "year")) evNil))) (evCons (evArgs mkTup (evCons (evArgs mkTup (evCons (evC (.str "may")) evNil)) (evCons (evArgs mkTup (evCons (evC (.str "june")) evNil)) (evCons (evArgs mkTup (evCons (evC (.str "july")) evNil)) evNil)))) (evCons (evVar 3) evNil)))) evNil)))))))) evSkip)
    (evSeq (evIfS (evTest (evBin eqP (evVar 0) (evC (.int 5)))) (evSeq (evAsg (.one 4) (evArgs mkLst (evCons (evArgs f_answer (evCons (evArgs f__law_sales evNil) (evCons (evArgs mkTup (evCons (evC (.str "sum")) (evCons (evC (.str "paid")) (evCons (evArgs mkLst (evCons (evArgs mkTup (evCons (evC (.str "town")) (evCons (evC (.str "is")) (evCons (evC (.str "oslo")) evNil)))) evNil)) evNil)))) evNil))) evNil)))
    (evSeq (evDrop (evMethK .lst appP (evVar 4) (evCons (evArgs f_answer (evCons (evArgs f__law_sales evNil) (evCons (evArgs mkTup (evCons (evC (.str "all")) (evCons (evC (.str "good")) (evCons (evArgs mkLst (evCons (evArgs mkTup (evCons (evC (.str "many")) (evCons (evC (.str "above")) (evCons (evC (.int 2)) evNil)))) evNil)) evNil)))) evNil))) evNil)))
    (evSeq (evDrop (evMethK .lst appP (evVar 4) (evCons (evArgs f_answer (evCons (evArgs f__law_sales evNil) (evCons (evArgs mkTup (evCons (evC (.str "count")) (evCons (evC (.str "paid")) (evCons (evArgs mkLst (evCons (evArgs mkTup (evCons (evC (.str "year")) (evCons (evC (.str "is")) (evCons (evC (.int 2025)) evNil)))) (evCons (evArgs mkTup (evCons (evC (.str "good")) (evCons (evC (.str "not")) (evCons (evC (.str "salt")) evNil)))) evNil))) evNil)))) evNil))) evNil)))
    (evSeq (evDrop (evMethK .lst appP (evVar 4) (evCons (evArgs f_answer_wide (evCons (evVar 1) (evCons (evArgs mkTup (evCons (evC (.str "greatest")) (evCons (evC (.str "many")) (evCons (evArgs mkLst evNil) evNil)))) evNil))) evNil)))
    (evSeq (evDrop (evMethK .lst appP (evVar 4) (evCons (evArgs f_answer (evCons (evArgs f__law_sales evNil) (evCons (evArgs mkTup (evCons (evC (.str "sum")) (evCons (evC (.str "many")) (evCons (evArgs mkLst (evCons (evArgs mkTup (evCons (evC (.str "year")) (evCons (evC (.str "below")) (evCons (evC (.int 1)) evNil)))) evNil)) evNil)))) evNil))) evNil)))
    (evRet (evArgs mkTup (evCons (evVar 4) (evCons (evArgs mkLst (evCons (evC (.int 93)) (evCons (evArgs mkLst (evCons (evC (.str "salt")) (evCons (evC (.str "tea")) evNil))) (evCons (evC (.int 2)) (evCons (evC (.int 9)) (evCons (evC .non) evNil)))))) evNil))))))))) evSkip)
    (evSeq (evAsg (.one 5) (evArgs f_wide_text (evCons (evArgs f_parts_by (evCons (evArgs f_heads_in (evCons (evVar 1) (evCons (evC (.str "falling")) evNil))) (evCons (evArgs mkTup (evCons (evC (.int 2024)) (evCons (evC (.str "may")) evNil))) (evCons (evC (.str "many")) evNil)))) evNil)))
    (evSeq (evAsg (.one 6) (evC (.str "wide town / year month / many\nhead 2025 'may'\nhead 2025 'july'\nhead 2024 'may'\nhead 2024 'june'\n")))
    (evSeq (evAsg (.one 6) (evBin addV (evVar 6) (evC (.str "part 'bern' : _ : 9 : _ : 3\npart 'rome' : 7 : _ : 3 : _\npart 'oslo' : 7 : _ : 5 : 4"))))
    (evRet (evArgs mkTup (evCons (evArgs mkLst (evCons (evVar 5) (evCons (evBin ixAll (evArgs f_rolled (evCons (evArgs f__law_few evNil) (evCons (evArgs mkLst (evCons (evC (.str "town")) evNil)) (evCons (evArgs mkLst (evCons (evC (.str "year")) (evCons (evC (.str "month")) evNil))) (evCons (evArgs mkLst (evCons (evC (.str "many")) evNil)) (evCons (evArgs mkLst (evCons (evC (.str "greatest")) evNil)) (evCons (evC (.str "rising")) (evCons (evC (.int 0)) (evCons (evC (.int 1)) evNil))))))))) (evC (.int 4))) evNil))) (evCons (evArgs mkLst (evCons (evVar 6) (evCons (evArgs mkTup (evCons (evArgs mkTup (evCons (evArgs mkTup evNil) (evCons (evArgs mkTup (evCons (evArgs mkTup (evCons (evC (.int 5)) evNil)) (evCons (evArgs mkTup (evCons (evC (.int 9)) evNil)) evNil))) evNil))) evNil)) evNil))) evNil))))))))))
def f__law_second : List SV → VH → EvR := evFun 1 6 b__law_second
theorem sc__law_second : FnScope ["_law_which", "_law_wide", "_law_moved", "_law_rows", "_law_found", "_law_text", "_law_due"] ["_law_which"] (defScope s__law_second) := ⟨rfl, rfl, rfl, by decide +kernel, rfl, by decide +kernel, by decide +kernel⟩
theorem ok__law_second (T : Txt K mg C base) : OkF C P w K mg base 8 (T.ad "_law_second") 1 f__law_second :=
  ok_def T.d__law_second sc__law_second rfl rfl fun cdv A outer s H hr => by
    have S := sc__law_second
    have hun := hr.un
    have hu9 : (A.deeper (envOfC "_law_second" (defScope s__law_second) s.heap.objs.size (T.ad "_law_second") cdv)).units + 9 < cLine := by omega
    have hu10 : (A.deeper (envOfC "_law_second" (defScope s__law_second) s.heap.objs.size (T.ad "_law_second") cdv)).units + 10 < cLine := by omega
    have hu64 : (A.deeper (envOfC "_law_second" (defScope s__law_second) s.heap.objs.size (T.ad "_law_second") cdv)).units + 64 < cLine := by omega
    have hu66 : (A.deeper (envOfC "_law_second" (defScope s__law_second) s.heap.objs.size (T.ad "_law_second") cdv)).units + 66 < cLine := by omega
    have hr0 := hr
    exact (ssCons (sSet 1 S.nd (xCall0 (ok__law_by_town T) arity_fun (hr0.mono (by decide)) T.g__law_by_town))
      (ssCons (sIf (tCmp (op_eqD hu64) eqP_ok (xVar 0) xInt) (ssCons (sSet 2 S.nd (xCall (ok_to_key T) arity_fun (hr0.mono (by decide)) T.g_to_key (aCons (xVar 1) (aCons xStr aNil))))
      (ssCons (sSet 3 S.nd (xTup (aCons (xTup (aCons (xTup (aCons xStr (aCons xInt aNil))) (aCons (xTup (aCons (xTup (aCons xInt aNil)) (aCons (xTup (aCons xInt aNil)) (aCons xNon aNil)))) aNil))) (aCons (xTup (aCons (xTup (aCons xStr (aCons xInt aNil))) (aCons (xTup (aCons (xTup (aCons xInt aNil)) (aCons xNon (aCons xNon aNil)))) aNil))) aNil))))
      (ssCons (sSet 3 S.nd (xAdd (xVar 3) (xTup (aCons (xTup (aCons (xTup (aCons xStr (aCons xInt aNil))) (aCons (xTup (aCons (xTup (aCons xInt aNil)) (aCons xNon (aCons xNon aNil)))) aNil))) (aCons (xTup (aCons (xTup (aCons xStr (aCons xInt aNil))) (aCons (xTup (aCons (xTup (aCons xInt aNil)) (aCons xNon (aCons xNon aNil)))) aNil))) aNil)))))
      (ssCons (sSet 3 S.nd (xAdd (xVar 3) (xTup (aCons (xTup (aCons (xTup (aCons xStr (aCons xInt aNil))) (aCons (xTup (aCons xNon (aCons (xTup (aCons xInt aNil)) (aCons xNon aNil)))) aNil))) (aCons (xTup (aCons (xTup (aCons xStr (aCons xInt aNil))) (aCons (xTup (aCons xNon (aCons xNon (aCons (xTup (aCons xInt aNil)) aNil)))) aNil))) aNil)))))
      (ssOne (sRet (xTup (aCons (xLst (aCons (xIx hu9 (xVar 2) xInt) (aCons (xIx hu9 (xVar 2) xInt) (aCons (xIx hu9 (xVar 2) xInt) aNil)))) (aCons (xLst (aCons (xTup (aCons xStr (aCons xStr aNil))) (aCons (xTup (aCons (xTup (aCons xStr aNil)) (aCons (xTup (aCons xStr aNil)) (aCons (xTup (aCons xStr aNil)) aNil)))) (aCons (xVar 3) aNil)))) aNil))))))))) ssNil)
      (ssCons (sIf (tCmp (op_eqD hu64) eqP_ok (xVar 0) xInt) (ssCons (sSet 4 S.nd (xLst (aCons (xCall (ok_answer T) arity_fun (hr0.mono (by decide)) T.g_answer (aCons (xCall0 (ok__law_sales T) arity_fun (hr0.mono (by decide)) T.g__law_sales) (aCons (xTup (aCons xStr (aCons xStr (aCons (xLst (aCons (xTup (aCons xStr (aCons xStr (aCons xStr aNil)))) aNil)) aNil)))) aNil))) aNil)))
      (ssCons (sExpr (xMeth (kd := .lst) PySem.F.plainAttrs_list PySem.F.slot_list_append PySem.F.type_list_append mt_append appP_ok (xVar 4) (aCons (xCall (ok_answer T) arity_fun (hr0.mono (by decide)) T.g_answer (aCons (xCall0 (ok__law_sales T) arity_fun (hr0.mono (by decide)) T.g__law_sales) (aCons (xTup (aCons xStr (aCons xStr (aCons (xLst (aCons (xTup (aCons xStr (aCons xStr (aCons xInt aNil)))) aNil)) aNil)))) aNil))) aNil)))
      (ssCons (sExpr (xMeth (kd := .lst) PySem.F.plainAttrs_list PySem.F.slot_list_append PySem.F.type_list_append mt_append appP_ok (xVar 4) (aCons (xCall (ok_answer T) arity_fun (hr0.mono (by decide)) T.g_answer (aCons (xCall0 (ok__law_sales T) arity_fun (hr0.mono (by decide)) T.g__law_sales) (aCons (xTup (aCons xStr (aCons xStr (aCons (xLst (aCons (xTup (aCons xStr (aCons xStr (aCons xInt aNil)))) (aCons (xTup (aCons xStr (aCons xStr (aCons xStr aNil)))) aNil))) aNil)))) aNil))) aNil)))
      (ssCons (sExpr (xMeth (kd := .lst) PySem.F.plainAttrs_list PySem.F.slot_list_append PySem.F.type_list_append mt_append appP_ok (xVar 4) (aCons (xCall (ok_answer_wide T) arity_fun (hr0.mono (by decide)) T.g_answer_wide (aCons (xVar 1) (aCons (xTup (aCons xStr (aCons xStr (aCons (xLst aNil) aNil)))) aNil))) aNil)))
      (ssCons (sExpr (xMeth (kd := .lst) PySem.F.plainAttrs_list PySem.F.slot_list_append PySem.F.type_list_append mt_append appP_ok (xVar 4) (aCons (xCall (ok_answer T) arity_fun (hr0.mono (by decide)) T.g_answer (aCons (xCall0 (ok__law_sales T) arity_fun (hr0.mono (by decide)) T.g__law_sales) (aCons (xTup (aCons xStr (aCons xStr (aCons (xLst (aCons (xTup (aCons xStr (aCons xStr (aCons xInt aNil)))) aNil)) aNil)))) aNil))) aNil)))
      (ssOne (sRet (xTup (aCons (xVar 4) (aCons (xLst (aCons xInt (aCons (xLst (aCons xStr (aCons xStr aNil))) (aCons xInt (aCons xInt (aCons xNon aNil)))))) aNil)))))))))) ssNil)
      (ssCons (sSet 5 S.nd (xCall (ok_wide_text T) arity_fun (hr0.mono (by decide)) T.g_wide_text (aCons (xCall (ok_parts_by T) arity_fun (hr0.mono (by decide)) T.g_parts_by (aCons (xCall (ok_heads_in T) arity_fun (hr0.mono (by decide)) T.g_heads_in (aCons (xVar 1) (aCons xStr aNil))) (aCons (xTup (aCons xInt (aCons xStr aNil))) (aCons xStr aNil)))) aNil)))
      (ssCons (sSet 6 S.nd xStr)
      (ssCons (sSet 6 S.nd (xAdd (xVar 6) xStr))
      (ssOne (sRet (xTup (aCons (xLst (aCons (xVar 5) (aCons (xIx hu9 (xCall (ok_rolled T) arity_fun (hr0.mono (by decide)) T.g_rolled (aCons (xCall0 (ok__law_few T) arity_fun (hr0.mono (by decide)) T.g__law_few) (aCons (xLst (aCons xStr aNil)) (aCons (xLst (aCons xStr (aCons xStr aNil))) (aCons (xLst (aCons xStr aNil)) (aCons (xLst (aCons xStr aNil)) (aCons xStr (aCons xInt (aCons xInt aNil))))))))) xInt) aNil))) (aCons (xLst (aCons (xVar 6) (aCons (xTup (aCons (xTup (aCons (xTup aNil) (aCons (xTup (aCons (xTup (aCons xInt aNil)) (aCons (xTup (aCons xInt aNil)) aNil))) aNil))) aNil)) aNil))) aNil)))))))))))
def b__law_taken : SF := (evSeq (evIfS (evTest (evBin eqP (evVar 0) (evC (.int 4)))) (evRet (evArgs mkLst (evCons (evArgs mkTup (evCons (evArgs mkTup (evCons (evC (.str "oslo")) evNil)) (evCons (evArgs mkTup (evCons (evC (.int 2025)) (evCons (evC (.str "may")) evNil))) (evCons (evArgs mkTup (evCons (evC (.int 7)) evNil)) (evCons (evArgs mkTup (evCons (evC (.int 6)) evNil)) evNil))))) evNil))) evSkip)
    (evRet (evArgs mkLst (evCons (evArgs mkTup (evCons (evArgs mkTup (evCons (evC (.str "bern")) evNil)) (evCons (evArgs mkTup (evCons (evC (.int 2025)) (evCons (evC (.str "july")) evNil))) (evCons (evArgs mkTup (evCons (evC (.int 9)) evNil)) (evCons (evC .non) evNil))))) evNil))))
def f__law_taken : List SV → VH → EvR := evFun 1 0 b__law_taken
theorem sc__law_taken : FnScope ["_law_take_here"] ["_law_take_here"] (defScope s__law_taken) := ⟨rfl, rfl, rfl, by decide +kernel, rfl, by decide +kernel, by decide +kernel⟩
theorem ok__law_taken (T : Txt K mg C base) : OkF C P w K mg base 1 (T.ad "_law_taken") 1 f__law_taken :=
  ok_def T.d__law_taken sc__law_taken rfl rfl fun cdv A outer s H hr => by
    have S := sc__law_taken
    have hun := hr.un
    have hu9 : (A.deeper (envOfC "_law_taken" (defScope s__law_taken) s.heap.objs.size (T.ad "_law_taken") cdv)).units + 9 < cLine := by omega
    have hu10 : (A.deeper (envOfC "_law_taken" (defScope s__law_taken) s.heap.objs.size (T.ad "_law_taken") cdv)).units + 10 < cLine := by omega
    have hu64 : (A.deeper (envOfC "_law_taken" (defScope s__law_taken) s.heap.objs.size (T.ad "_law_taken") cdv)).units + 64 < cLine := by omega
    have hu66 : (A.deeper (envOfC "_law_taken" (defScope s__law_taken) s.heap.objs.size (T.ad "_law_taken") cdv)).units + 66 < cLine := by omega
    have hr0 := hr
    exact (ssCons (sIf (tCmp (op_eqD hu64) eqP_ok (xVar 0) xInt) (ssOne (sRet (xLst (aCons (xTup (aCons (xTup (aCons xStr aNil)) (aCons (xTup (aCons xInt (aCons xStr aNil))) (aCons (xTup (aCons xInt aNil)) (aCons (xTup (aCons xInt aNil)) aNil))))) aNil)))) ssNil)
      (ssOne (sRet (xLst (aCons (xTup (aCons (xTup (aCons xStr aNil)) (aCons (xTup (aCons xInt (aCons xStr aNil))) (aCons (xTup (aCons xInt aNil)) (aCons xNon aNil))))) aNil)))))
def b__law_kept_right : SF := (evSeq (evAsg (.one 1) (evArgs f__law_few evNil))
    (evSeq (evAsg (.one 2) (evMake f_K_init (evCons (evBin ixAll (evVar 1) (evC (.int 0))) (evCons (evArgs mkLst (evCons (evC (.str "town")) evNil)) (evCons (evArgs mkLst (evCons (evC (.str "year")) (evCons (evC (.str "month")) evNil))) (evCons (evArgs mkLst (evCons (evC (.str "many")) evNil)) (evCons (evArgs mkLst (evCons (evC (.str "sum")) evNil)) (evCons (evC (.str "seen")) evNil))))))))
    (evSeq (evFor (evSeqI (evBin ixAll (evVar 1) (evC (.int 1)))) (.one 3) (evDrop (evMethI "put_row" f_K_put_row (evVar 2) (evCons (evVar 3) evNil))))
    (evSeq (evIfS (evNot (evTest (evArgs (f__law_same 8) (evCons (evMethI "wide_now" f_K_wide_now (evVar 2) evNil) (evCons (evArgs f__law_by_town evNil) evNil))))) (evRet (evC (.bl false))) evSkip)
    (evSeq (evAsg (.many [4, 5]) (evMethI "put_row" f_K_put_row (evVar 2) (evCons (evArgs mkTup (evCons (evC (.str "rome")) (evCons (evC (.int 2024)) (evCons (evC (.str "june")) (evCons (evC (.int 8)) evNil))))) evNil)))
    (evSeq (evAsg (.one 6) (evArgs mkLst (evCons (evArgs mkTup (evCons (evArgs mkTup (evCons (evC (.str "rome")) evNil)) (evCons (evArgs mkTup (evCons (evC (.int 2024)) (evCons (evC (.str "june")) evNil))) (evCons (evC .non) (evCons (evArgs mkTup (evCons (evC (.int 8)) evNil)) evNil))))) evNil)))
    (evSeq (evIfS (evOr (evTest (evBin neP (evVar 4) (evC (.int 9)))) (evOr (evNot (evTest (evArgs (f__law_same 8) (evCons (evVar 5) (evCons (evVar 6) evNil))))) (evNot (evTest (evArgs (f__law_same 8) (evCons (evMethI "take_row" f_K_take_row (evVar 2) (evCons (evVar 0) evNil)) (evCons (evArgs f__law_taken (evCons (evVar 0) evNil)) evNil))))))) (evRet (evC (.bl false))) evSkip)
    (evSeq (evDrop (evMethI "undo" f_K_undo (evVar 2) evNil))
    (evRet (evAndV (evBin eqP (evMethI "undo" f_K_undo (evVar 2) evNil) (evArgs mkLst (evCons (evArgs mkTup (evCons (evArgs mkTup (evCons (evC (.str "rome")) evNil)) (evCons (evArgs mkTup (evCons (evC (.int 2024)) (evCons (evC (.str "june")) evNil))) (evCons (evArgs mkTup (evCons (evC (.int 8)) evNil)) (evCons (evC .non) evNil))))) evNil))) (evArgs (f__law_same 8) (evCons (evMethI "wide_now" f_K_wide_now (evVar 2) evNil) (evCons (evArgs f__law_by_town evNil) evNil)))))))))))))
def f__law_kept_right : List SV → VH → EvR := evFun 1 6 b__law_kept_right
theorem sc__law_kept_right : FnScope ["_law_take_here", "_law_table", "_law_keeper", "_law_row", "_law_number", "_law_changes", "_law_due"] ["_law_take_here"] (defScope s__law_kept_right) := ⟨rfl, rfl, rfl, by decide +kernel, rfl, by decide +kernel, by decide +kernel⟩
theorem ok__law_kept_right (T : Txt K mg C base) : OkF C P w K mg base 9 (T.ad "_law_kept_right") 1 f__law_kept_right :=
  ok_def T.d__law_kept_right sc__law_kept_right rfl rfl fun cdv A outer s H hr => by
    have S := sc__law_kept_right
    have hun := hr.un
    have hu9 : (A.deeper (envOfC "_law_kept_right" (defScope s__law_kept_right) s.heap.objs.size (T.ad "_law_kept_right") cdv)).units + 9 < cLine := by omega
    have hu10 : (A.deeper (envOfC "_law_kept_right" (defScope s__law_kept_right) s.heap.objs.size (T.ad "_law_kept_right") cdv)).units + 10 < cLine := by omega
    have hu64 : (A.deeper (envOfC "_law_kept_right" (defScope s__law_kept_right) s.heap.objs.size (T.ad "_law_kept_right") cdv)).units + 64 < cLine := by omega
    have hu66 : (A.deeper (envOfC "_law_kept_right" (defScope s__law_kept_right) s.heap.objs.size (T.ad "_law_kept_right") cdv)).units + 66 < cLine := by omega
    have hr0 := hr
    have hrM : Room (7 + 1) _ := hr.mono (by decide)
    exact (ssCons (sSet 1 S.nd (xCall0 (ok__law_few T) arity_fun (hr0.mono (by decide)) T.g__law_few))
      (ssCons (sSet 2 S.nd (xMake T.mkr (ok_K_init T) arity_fun hrM T.g_Keeper (aCons (xIx hu9 (xVar 1) xInt) (aCons (xLst (aCons xStr aNil)) (aCons (xLst (aCons xStr (aCons xStr aNil))) (aCons (xLst (aCons xStr aNil)) (aCons (xLst (aCons xStr aNil)) (aCons xStr aNil))))))))
      (ssCons (sFor PassesOwn.never rfl (iSeq (xIx hu9 (xVar 1) xInt)) (gOne 3 S.nd) (ssOne (sExpr (xMethI (ok_K_put_row T) arity_fun (hr0.mono (by decide)) T.cl T.m_put_row (xVar 2) (aCons (xVar 3) aNil)))))
      (ssCons (sIf (tNotB (tVal (xCall (ok__law_same T 8) (arity_same 8) (hr0.mono (by decide)) T.g__law_same (aCons (xMethI0 (ok_K_wide_now T) arity_fun (hr0.mono (by decide)) T.cl T.m_wide_now (xVar 2)) (aCons (xCall0 (ok__law_by_town T) arity_fun (hr0.mono (by decide)) T.g__law_by_town) aNil))))) (ssOne (sRet xBl)) ssNil)
      (ssCons (sAsg (xMethI (ok_K_put_row T) arity_fun (hr0.mono (by decide)) T.cl T.m_put_row (xVar 2) (aCons (xTup (aCons xStr (aCons xInt (aCons xStr (aCons xInt aNil))))) aNil)) (gMany [4, 5] rfl (gsCons 4 S.nd (gsCons 5 S.nd gsNil))))
      (ssCons (sSet 6 S.nd (xLst (aCons (xTup (aCons (xTup (aCons xStr aNil)) (aCons (xTup (aCons xInt (aCons xStr aNil))) (aCons xNon (aCons (xTup (aCons xInt aNil)) aNil))))) aNil)))
      (ssCons (sIf (PW.pt (wOr (tCmp (op_neD hu64) neP_ok (xVar 4) xInt) (wOr (tNotB (tVal (xCall (ok__law_same T 8) (arity_same 8) (hr0.mono (by decide)) T.g__law_same (aCons (xVar 5) (aCons (xVar 6) aNil))))) (wOr1 (tNotB (tVal (xCall (ok__law_same T 8) (arity_same 8) (hr0.mono (by decide)) T.g__law_same (aCons (xMethI (ok_K_take_row T) arity_fun (hr0.mono (by decide)) T.cl T.m_take_row (xVar 2) (aCons (xVar 0) aNil)) (aCons (xCall (ok__law_taken T) arity_fun (hr0.mono (by decide)) T.g__law_taken (aCons (xVar 0) aNil)) aNil))))))))) (ssOne (sRet xBl)) ssNil)
      (ssCons (sExpr (xMethI0 (ok_K_undo T) arity_fun (hr0.mono (by decide)) T.cl T.m_undo (xVar 2)))
      (ssOne (sRet (xAnd (xCmp (op_eqD hu64) eqP_ok (xMethI0 (ok_K_undo T) arity_fun (hr0.mono (by decide)) T.cl T.m_undo (xVar 2)) (xLst (aCons (xTup (aCons (xTup (aCons xStr aNil)) (aCons (xTup (aCons xInt (aCons xStr aNil))) (aCons (xTup (aCons xInt aNil)) (aCons xNon aNil))))) aNil))) (xAnd1 (xCall (ok__law_same T 8) (arity_same 8) (hr0.mono (by decide)) T.g__law_same (aCons (xMethI0 (ok_K_wide_now T) arity_fun (hr0.mono (by decide)) T.cl T.m_wide_now (xVar 2)) (aCons (xCall0 (ok__law_by_town T) arity_fun (hr0.mono (by decide)) T.g__law_by_town) aNil)))))))))))))))
end
end Ev

namespace Ev
open PySem L2 PySem.Spec PyProof.Rows

/-! ## the draws, by hand -/
/-- a def keeps a promise -/
structure OkS (P : Program) (w : World) (K : PySem.W.Frag) (mg : Str → Option Value) (base : Heap) (k : Nat) (a : Addr) (sp : Sp) : Prop where
  ex : ∃ fd ps, FnOk P w K mg base CX0 k a fd ps sp ∧ Binds K fd ps []
  kp : PySem.W.keepIn K (.ref a) = true
def spCell (K : PySem.W.Frag) : Sp := fun vs H Q _ => ∃ (a : Addr) (ns : List Int) (k : Nat), vs = [.ref a, .int k] ∧ SqL K H a (ns.map V.int) ∧ ∀ z : Int, Q (.int z) H
def spBox (K : PySem.W.Frag) : Sp := fun vs H Q _ => ∃ (a : Addr) (ns : List Int) (k : Nat), vs = [.ref a, .int k] ∧ SqL K H a (ns.map V.int) ∧ k ≤ 100 ∧
  ∀ (p : Addr) (x y : Int), H p = none → 0 ≤ x → 0 ≤ y → y < 4611686018427387904 → Q (.ref p) (upd H p (.lst [.int x, .int y, .int 0]))
def spTake : Sp := fun vs H Q _ => ∃ (b : Addr) (x y c m : Int), vs = [.ref b, .int m] ∧ H b = some (.lst [.int x, .int y, .int c]) ∧ 0 ≤ x ∧ 0 ≤ y ∧ y < 4611686018427387904 ∧ 0 ≤ c ∧ c ≤ 1000 ∧ 0 < m ∧ m < 1000 ∧
  ∀ r x' c' : Int, 0 ≤ r → r < m → 0 ≤ x' → c ≤ c' → c' ≤ c + 1 → Q (.int r) (upd H b (.lst [.int x', .int y, .int c']))
/-- the text's facts that the draws need -/
structure TxtL (K : PySem.W.Frag) (mg : Str → Option Value) where
  cell : Addr
  box : Addr
  take : Addr
  d_cell : DefF K "_law_cell_at" "_law_cell_at" s_cell ["_law_script", "_law_k"] cell
  d_box : DefF K "_law_box" "_law_box" s_box ["_law_script", "_law_k"] box
  d_take : DefF K "_law_take" "_law_take" s_take ["_law_box_here", "_law_many"] take
  g_cell : mg "_law_cell_at" = some (.ref cell)
  g_box : mg "_law_box" = some (.ref box)
  g_take : mg "_law_take" = some (.ref take)
  b_len : mg "len" = none
  b_abs : mg "abs" = none
  b_int : mg "int" = none
section
variable {P : Program} {w : World} {K : PySem.W.Frag} {mg : Str → Option Value} {base : Heap}
theorem hCmp {X : Cx} {op : CmpOp} {r : R2} {a b : Expr} {ta tb : TE} {pos : Pos} (ho : OpR X (compareOp op) r) (ha : PE X a ta) (hb : PE X b tb) (hm : behindInMarks op b = false := by rfl) : PT X (.Compare a [op] [b] pos) (tTest (tOp r ta tb)) := pt_cmpR ho ha hb hm
theorem hCmpE {X : Cx} {op : CmpOp} {r : R2} {a b : Expr} {ta tb : TE} {pos : Pos} (ho : OpR X (compareOp op) r) (ha : PE X a ta) (hb : PE X b tb) (hm : behindInMarks op b = false := by rfl) : PE X (.Compare a [op] [b] pos) (tOp r ta tb) := pe_cmpR ho ha hb hm
theorem hIx {X : Cx} {r : R2} {a b : Expr} {ta tb : TE} {pos : Pos} (hi : IxR X r) (ha : PE X a ta) (hb : PE X b tb) (hs : PlainIx b := by exact fun _ _ => rfl) : PE X (.Subscript a b pos) (tOp r ta tb) := pe_ix hi ha hb hs
theorem okS {x qual : Str} {st : Stmt} {ps : List Str} {a : Addr} {N : List Str} {k : Nat} {sp : Sp} (D : DefF K x qual st ps a) (S : FnScope N ps (defScope st)) (len : ∀ vs H Q E, sp vs H Q E → vs.length = ps.length)
    (hb : ∀ (cdv : Value) (A : Around) (outer : List Env) (s : Shared) (H : Hp) (vs : List V) (Q : VK) (E : XK), Room k (A.deeper (envOfC qual (defScope st) s.heap.objs.size a cdv)) → sp vs H Q E →
      ∃ t, PSs (cxOf CX0 P w K mg base N qual (defScope st) a cdv A outer s H E).nox (defBody st) t ∧ t { nx := fun _ H' => Q .non H', rt := Q } (start N vs) H) : OkS P w K mg base (k + 1) a sp := by
  obtain ⟨fd, F, hB⟩ := D.ex
  exact ⟨⟨fd, ps, F.ok S len hb, hB⟩, F.kp⟩
theorem sc_cell : FnScope ["_law_script", "_law_k"] ["_law_script", "_law_k"] (defScope s_cell) := ⟨rfl, rfl, rfl, by decide +kernel, rfl, by decide +kernel, by decide +kernel⟩
theorem ok_cell (T : TxtL K mg) : OkS P w K mg base 1 T.cell (spCell K) := by
  refine okS T.d_cell sc_cell (fun vs H Q E h => ?_) fun cdv A outer s H vs Q E hr h => ?_
  · obtain ⟨a, ns, k, rfl, _⟩ := h
    rfl
  · obtain ⟨a, ns, k, rfl, hs, q⟩ := h
    refine ⟨_, pss_cons (ps_if (hCmp op_lt (pv 1) (pe_callB call_len_seq (by rfl) T.b_len PySem.boot_len (pa_cons (pv 0) pa_nil))) (pss_one (ps_ret (hIx ix_list (pv 0) (pv 1)))) pss_nil) (pss_one (ps_ret pe_int)), ?_⟩
    refine ⟨_, rfl, _, rfl, a, _, rfl, .inl hs, k, _, rfl, rfl, _, rfl, ?_⟩
    refine ite2 (fun hk => ?_) (fun hk => ?_)
    · have hk' : k < ns.length := by
        have z := of_decide_eq_true hk
        rw [List.length_map] at z
        omega
      refine ⟨_, rfl, _, rfl, a, _, k, .int ns[k], rfl, rfl, hs, ?_, q _⟩
      exact atI_nat (by rw [List.getElem?_map, List.getElem?_eq_getElem hk']; rfl)
    · exact q 0
theorem hCall {X : Cx} {k : Nat} {ad : Addr} {sp : Sp} {x : Str} {e : Expr} {es : List Expr} {t : TA} {p pos : Pos} (G : OkS X.prog X.w X.K X.mg X.base k ad sp) (hr : Room k X.A) (hm : X.mg x = some (.ref ad)) (ha : PA X (e :: es) t) (hg : Gl X x := by rfl) (hdb : (x == ("__debug__" : Str)) = false := by decide)
    (he : starEach (e :: es) X.env = (false, eval e X.env) :: starEach es X.env := by rfl) (hpl : (backTo pos (starEach es X.env)).any (·.1) = false := by rfl) : PE X (.Call (.Name x p) (e :: es) [] pos) (tCall sp [] E0 t) := by
  obtain ⟨fd, ps, F, hB⟩ := G.ex
  exact pe_call F hr hg hm G.kp hB .nil pass0 ha hdb he hpl
theorem hSet {X : Cx} (i : Nat) {x : Str} {e : Expr} {te : TE} {pos pos' : Pos} (hN : X.N.Nodup) (he : PE X e te) (hi : X.N[i]? = some x := by rfl) (hx : L2.Loc X.env.scope x := by first | exact Or.inl rfl | exact Or.inr rfl) (hs : swapsWith e (some (.Name x pos')) pos.line X.env = pure false := by rfl) (hf : X.fn x = true ∨ X.env.scope.names.lookup x = some .local := by first | exact .inl rfl | exact .inr rfl) :
    PS X (.Assign [.Name x pos'] e pos) (tAsg te (gName i)) := ps_set hN hi hx he hs hf
theorem b01 (b : Bool) : -(2 ^ 64) < (if b = true then (1 : Int) else 0) ∧ (if b = true then (1 : Int) else 0) < 2 ^ 64 := by cases b <;> decide
theorem b01n (b : Bool) : 0 ≤ (if b = true then (1 : Int) else 0) := by cases b <;> decide
theorem sc_box : FnScope ["_law_script", "_law_k", "_law_number"] ["_law_script", "_law_k"] (defScope s_box) := ⟨rfl, rfl, rfl, by decide +kernel, rfl, by decide +kernel, by decide +kernel⟩
theorem ok_box (T : TxtL K mg) : OkS P w K mg base 2 T.box (spBox K) := by
  refine okS T.d_box sc_box (fun vs H Q E h => ?_) fun cdv A outer s H vs Q E hr h => ?_
  · obtain ⟨a, ns, k, rfl, _⟩ := h
    rfl
  · obtain ⟨a, ns, k, rfl, hs, hk, q⟩ := h
    refine ⟨_, pss_cons (hSet 2 sc_box.nd (hCall (ok_cell T) hr T.g_cell (pa_cons (pv 0) (pa_cons (pv 1) pa_nil))))
      (pss_one (ps_ret (pe_lst (pa_cons (pe_op op_mul (pe_callB call_abs (by rfl) T.b_abs (by decide +kernel) (pa_cons (pv 2) pa_nil)) (pe_callTy call_int1 (by rfl) T.b_int (by decide +kernel) (pa_cons (hCmpE op_ge (pe_callB call_abs (by rfl) T.b_abs (by decide +kernel) (pa_cons (pv 2) pa_nil)) (pe_op op_pow pe_int pe_int)) pa_nil)))
        (pa_cons (pe_op op_add (pe_op op_add (pe_op op_mod (pv 2) pe_int) (pe_op op_mul pe_int (pv 1))) pe_int) (pa_cons pe_int pa_nil)))))), ?_⟩
    refine ⟨_, rfl, _, rfl, a, ns, k, rfl, hs, fun z => ?_⟩
    refine ⟨_, rfl, z, rfl, _, rfl, z, rfl, 10, 18, rfl, rfl, ⟨by decide, by decide, by decide⟩, _, _, rfl, rfl, .inr ⟨_, rfl, _, _, rfl, rfl, .inr (b01 _), _, rfl, _, _, rfl, rfl, (show (0 : Int) < 2305843009213693951 by decide), _, rfl, _, _, rfl, rfl, .inl (by decide), _, _, rfl, rfl, _, _, rfl, rfl, (by show 3 ≤ sizeLine; rw [sizeLine_eq]; decide), fun p hp => q p _ _ hp ?_ ?_ ?_⟩⟩
    · refine Int.mul_nonneg ?_ (b01n _)
      split <;> omega
    · have := Int.emod_nonneg z (b := 2305843009213693951) (by decide)
      omega
    · have := Int.emod_lt_of_pos z (b := 2305843009213693951) (by decide)
      omega
theorem sc_take : FnScope ["_law_box_here", "_law_many", "_law_found", "_law_once", "_law_twice"] ["_law_box_here", "_law_many"] (defScope s_take) := ⟨rfl, rfl, rfl, by decide +kernel, rfl, by decide +kernel, by decide +kernel⟩
theorem hPut {X : Cx} {e o i : Expr} {te to ti : TE} {p pos : Pos} (ho : PE X o to) (hi : PE X i ti) (h : PE X e te) (hs : swapsWithSole [.Subscript o i p] e pos.line X.env = pure false := by rfl) (hw : swappedStores [.Subscript o i p] e X.env = pure none := by rfl) (h1 : (assignEach [.Subscript o i p] X.env).map (·.2) = [assign (.Subscript o i p) X.env] := by rfl)
    (has : ∀ v, assign (.Subscript o i p) X.env v = (do
      let ov ← holding [v] (eval o X.env)
      let iv ← holding [v, ov] (eval i X.env)
      standAt p
      holding [v, ov, iv] (setItem ov iv v)
      release [v, ov, iv] []) := by intro _; rfl) : PS X (.Assign [.Subscript o i p] e pos) (tAsg te (gSub to ti rSetL)) := ps_asg h (pg_sub ho hi set_list has) hs hw h1
theorem bnd1 {o c : Int} (h : 0 ≤ o) (hc : 0 ≤ c) : -(2 ^ 64) < o + (c + 1) := by omega
theorem bnd2 {o c : Int} (h : o < 2147483647) (hc : c ≤ 1000) : o + (c + 1) < 2 ^ 64 := by omega
theorem ok_take (T : TxtL K mg) : OkS P w K mg base 1 T.take spTake := by
  refine okS T.d_take sc_take (fun vs H Q E h => ?_) fun cdv A outer s H vs Q E hr h => ?_
  · obtain ⟨b, x, y, c, m, rfl, _⟩ := h
    rfl
  · obtain ⟨b, x, y, c, m, rfl, hb, hx, hy, hy2, hc, hc2, hm, hm2, q⟩ := h
    have nd := sc_take.nd
    refine ⟨_, pss_cons (ps_if (hCmp op_gt (hIx ix_list (pv 0) pe_int) pe_int) (pss_cons (hSet 2 nd (pe_op op_mod (hIx ix_list (pv 0) pe_int) (pv 1))) (pss_cons (hPut (pv 0) pe_int (pe_op op_fdiv (hIx ix_list (pv 0) pe_int) (pv 1))) (pss_one (ps_ret (pv 2))))) pss_nil)
      (pss_cons (hPut (pv 0) pe_int (pe_op op_add (hIx ix_list (pv 0) pe_int) pe_int))
      (pss_cons (hSet 3 nd (pe_op op_mod (pe_op op_mul (pe_op op_add (hIx ix_list (pv 0) pe_int) (pe_op op_mul pe_int (hIx ix_list (pv 0) pe_int))) (pe_op op_add pe_int (hIx ix_list (pv 0) pe_int))) pe_int))
      (pss_cons (hSet 4 nd (pe_op op_mod (pe_op op_mul (pe_op op_add (pv 3) (hIx ix_list (pv 0) pe_int)) (pe_op op_add (pe_op op_mod (pv 3) pe_int) pe_int)) pe_int))
      (pss_one (ps_ret (pe_op op_mod (pe_op op_fdiv (pe_op op_mod (pe_op op_add (pe_op op_mul (pv 4) pe_int) (pv 3)) pe_int) pe_int) (pv 1))))))), ?_⟩
    have p1 : (0 : Int) < 2147483647 := by decide
    have p2 : (0 : Int) < 2147483629 := by decide
    have p3 : (0 : Int) < 2147483587 := by decide
    have p4 : (0 : Int) < 40009 := by decide
    refine ⟨_, rfl, b, _, 0, .int x, rfl, rfl, SqL.of hb, rfl, x, 0, rfl, rfl, _, rfl, ?_⟩
    refine ite2 (fun h => ?_) (fun h => ?_)
    · refine ⟨_, rfl, b, _, 0, .int x, rfl, rfl, SqL.of hb, rfl, _, rfl, x, m, rfl, rfl, hm, ?_⟩
      refine ⟨_, rfl, b, _, 0, .int x, rfl, rfl, SqL.of hb, rfl, _, rfl, x, m, rfl, rfl, ⟨hm, by omega⟩, _, rfl, b, _, 0, 0, rfl, rfl, hb, rfl, ?_⟩
      exact ⟨_, rfl, q (x % m) (x / m) c (Int.emod_nonneg _ (by omega)) (Int.emod_lt_of_pos _ hm) (Int.ediv_nonneg hx (by omega)) (by omega) (by omega)⟩
    · refine ⟨_, rfl, b, _, 2, .int c, rfl, rfl, SqL.of hb, rfl, c, 1, rfl, rfl, _, rfl, b, _, 2, 2, rfl, rfl, hb, rfl, ?_⟩
      have hb1 : upd H b (.lst [.int x, .int y, .int (c + 1)]) b = some (.lst [.int x, .int y, .int (c + 1)]) := upd_same
      refine ⟨_, rfl, b, _, 1, .int y, rfl, rfl, SqL.of hb1, rfl, _, rfl, b, _, 2, .int (c + 1), rfl, rfl, SqL.of hb1, rfl, 48271, c + 1, rfl, rfl, .inl (by decide), y, _, rfl, rfl, _, rfl, b, _, 2, .int (c + 1), rfl, rfl, SqL.of hb1, rfl, 39373, c + 1, rfl, rfl, _, _, rfl, rfl, .inl ⟨by omega, by omega⟩, _, _, rfl, rfl, p1, ?_⟩
      have o1 : 0 ≤ (y + 48271 * (c + 1)) * (39373 + (c + 1)) % 2147483647 := Int.emod_nonneg _ (by decide)
      have o2 : (y + 48271 * (c + 1)) * (39373 + (c + 1)) % 2147483647 < 2147483647 := Int.emod_lt_of_pos _ p1
      refine ⟨_, rfl, _, rfl, b, _, 2, .int (c + 1), rfl, rfl, SqL.of hb1, rfl, _, c + 1, rfl, rfl, _, rfl, _, 40009, rfl, rfl, p4, _, 7, rfl, rfl, _, _, rfl, rfl, .inl ⟨bnd1 o1 hc, bnd2 o2 hc2⟩, _, _, rfl, rfl, p2, ?_⟩
      refine ⟨_, rfl, _, _, rfl, rfl, .inr (by decide), _, rfl, _, _, rfl, rfl, _, _, rfl, rfl, p3, _, 64, rfl, rfl, ⟨by decide, by decide⟩, _, rfl, _, m, rfl, rfl, hm, ?_⟩
      exact q _ x (c + 1) (Int.emod_nonneg _ (by omega)) (Int.emod_lt_of_pos _ hm) hx (by omega) (by omega)
end
end Ev

namespace Ev
open PySem L2 PySem.Spec PyProof.Rows

/-! ## the double: an own exception, by values -/
/-- F.__init__(e, ..), F an own class whose __init__ is ValueError's -/
theorem pe_clsinit {X : Cx} {e : Expr} {es : List Expr} {ta : TA} {p1 p2 pos : Pos} {x : Str} {F : Addr} {pl : Sem Bool} (hm : X.mg x = some (.ref F)) (hsp : PySem.W.specialIn X.K (.ref F) "__getattribute__" = some (some (.builtin "type.__getattribute__")))
    (ht : PySem.W.typeIn X.K (.ref F) = some (.type "type")) (hr : PySem.W.readsIn X.K F (.type "type") = true) (vF : PySem.W.findCls X.K (.ref F) (.type "type") "__init__" = some (.val (.builtin "ValueError.__init__"))) (ha : PA X (e :: es) ta) (hg : Gl X x := by rfl) (hd : (x == ("__debug__" : Str)) = false := by decide)
    (hc : eval (.Call (.Attribute (.Name x p1) "__init__" p2) (e :: es) [] pos) X.env = (do
      let ov ← eval (.Name x p1) X.env
      standAt p2.atName
      let (f, first) ← holding [ov] (getMethod ov "__init__" pl)
      callWith pos f first (backTo pos (starEach (e :: es) X.env)) (backToKw pos (keywordEach [] X.env))) := by rfl)
    (he : starEach (e :: es) X.env = (false, eval e X.env) :: starEach es X.env := by rfl) (hpl : (backTo pos (starEach es X.env)).any (·.1) = false := by rfl) :
    PE X (.Call (.Attribute (.Name x p1) "__init__" p2) (e :: es) [] pos) (tVeI X.K ta) := by
  refine ⟨fun pins s σ H Q I h => ?_⟩
  refine PySem.W.methodCall_KW (ld_glob I hg hm ?_ hd) hc
  obtain ⟨m, fr⟩ := I.fr
  refine PySem.W.method_of_cls fr I.ok.mod.kin hsp (PySem.W.cls_val fr I.ok.mod.kin ht hr vF (by decide +kernel) ?_)
  show wpAny _ _ (callWith pos (Value.builtin "ValueError.__init__") [] (backTo pos (starEach (e :: es) X.env)) []) _ _ _
  refine PyProof.Rows.callWith_method1 (thn (ha.run pos pins _ σ H _ (I.tok _) h) fun us s1 ⟨vs, H1, I1, r1, a, C, ws, ev, hl, T, ea, q⟩ => ?_) he hpl
  subst ev
  cases r1 with
  | @cons _ u0 _ ur ra rw' =>
    obtain rfl : u0 = Value.ref a := ra
    have hlen : ur.length ≤ sizeLine := by
      rw [← Paired.length rw', sizeLine_eq]
      omega
    exact oinit_ok T I1 ea hlen fun s' J => ⟨.non, H1, J, rfl, q⟩

/-- Double.__init__ -/
def spInit (K : PySem.W.Frag) (C : Addr) : Sp := fun vs H Q _ => ∃ (a : Addr) (r : V), vs = [.ref a, r] ∧ H a = some (exo a C none) ∧ ∀ dx, H dx = none → dx ≠ a → Q .non (upd (upd H dx (exd dx [("rows", r)])) a (exo a C (some dx)))
/-- the text's facts that the double needs -/
structure TxtD (K : PySem.W.Frag) (mg : Str → Option Value) where
  dc : Addr
  fc : Addr
  ini : Addr
  dbl : Addr
  oex : OexC K dc
  xf : XfC K dc
  g_dc : mg "Double" = some (.ref dc)
  g_fc : mg "FoldError" = some (.ref fc)
  iC : PySem.W.findIn K (.ref dc) "__init__" = some (some (.ref ini))
  tI : PySem.W.typeIn K (.ref ini) = some (.type "function")
  d_ini : DefF K "__init__" "Double.__init__" s_init ["self", "rows"] ini
  d_dbl : DefF K "_law_double" "_law_double" s_double [] dbl
  no_rows : PySem.W.findIn K (.ref dc) "rows" = some none
  fsp : PySem.W.specialIn K (.ref fc) "__getattribute__" = some (some (.builtin "type.__getattribute__"))
  fty : PySem.W.typeIn K (.ref fc) = some (.type "type")
  frd : PySem.W.readsIn K fc (.type "type") = true
  fin : PySem.W.findCls K (.ref fc) (.type "type") "__init__" = some (.val (.builtin "ValueError.__init__"))
  xm : PySem.W.exmOne K (.ref dc) (.ref dc) = some true
section
variable {P : Program} {w : World} {K : PySem.W.Frag} {mg : Str → Option Value} {base : Heap}
theorem sc_init : FnScope ["self", "rows"] ["self", "rows"] (defScope s_init) := ⟨rfl, rfl, rfl, by decide +kernel, rfl, by decide +kernel, by decide +kernel⟩
theorem ok_init (T : TxtD K mg) : OkS P w K mg base 1 T.ini (spInit K T.dc) := by
  refine okS T.d_ini sc_init (fun vs H Q E h => ?_) fun cdv A outer s H vs Q E hr h => ?_
  · obtain ⟨a, r, rfl, _⟩ := h
    rfl
  · obtain ⟨a, r, rfl, ha, q⟩ := h
    refine ⟨_, pss_cons (ps_expr (pe_clsinit T.g_fc T.fsp T.fty T.frd T.fin (pa_cons (pv 0) (pa_cons pe_str pa_nil)))) (pss_one (ps_ost (pv 0) (pv 1))), ?_⟩
    refine ⟨_, rfl, a, T.dc, [_], rfl, by decide, T.oex, ha, ?_⟩
    exact ⟨r, rfl, _, rfl, a, T.dc, rfl, T.oex, T.no_rows, .inl ⟨ha, fun dx n ne => q dx n ne⟩⟩
end

/-! ### readings that raise: fx gives the exception's rows -/
section
variable (C : Bd) (P : Program) (w : World) (K : PySem.W.Frag) (dc : Addr)
def tKX (r : EvR) (ρ : List Addr) (H : Hp) (E : XK) : Prop := ∃ x h', r = some (x, h') ∧ ∀ ρ' H' v d, Ext K ρ H ρ' H' → Sim C P w K ρ' h' H' → VR K ρ' H' x v → H' d = some (.xd [("rows", v)]) → E (.ref dc) (some d) H'
def tXv (E : XK) (fx : EF) : TS := fun _ σ H => ∃ ρ l h, Sim C P w K ρ h H ∧ LR K ρ H l σ ∧ tKX C P w K dc (fx l h) ρ H E
def spX (n : Nat) (f : List SV → VH → EvR) : Sp := fun vs H _ E => vs.length = n ∧ ∃ ρ h xs, Sim C P w K ρ h H ∧ VRs K ρ H xs vs ∧ tKX C P w K dc (f xs h) ρ H E
end
def evSeqX (f : SF) (fx : EF) : EF := fun l h => match f l h with
  | some (.nx l1 h1) => fx l1 h1
  | _ => none
def evIfX (ft : TF') (fx : EF) : EF := fun l h => match ft l h with
  | some (true, h1) => fx l h1
  | _ => none
def loopX (it : VIt) (t : Tg) (fb : SF) (fx : EF) : Nat → Nat → Loc → VH → EvR
  | 0, _, _, _ => none
  | n + 1, k, l, h => match nextV it k h with
    | some (some v) => (match tgl it.sq t v l with
      | some l1 => (match fb l1 h with
        | some (.nx l2 h2) => loopX it t fb fx n (Nat.succ k) l2 h2
        | some (.ret _ _) => none
        | none => fx l1 h)
      | none => none)
    | _ => none
def evForX (fs : IF) (t : Tg) (fb : SF) (fx : EF) : EF := fun l h => match fs l h with
  | some (it, h1) => loopX it t fb fx 4096 0 l h1
  | none => none
def evFunX (n m : Nat) (fx : EF) : List SV → VH → EvR := fun xs h => match Nat.beq xs.length n with
  | true => fx (xs.map some ++ List.replicate m none) h
  | false => none
section
variable {C : Bd} {X : Cx} {dc : Addr} {E : XK}
theorem PSs.or {st : List Stmt} {t1 t2 : TS} (h1 : PSs X st t1) (h2 : PSs X st t2) : PSs X st (fun D σ H => t1 D σ H ∨ t2 D σ H) :=
  ⟨fun pins s σ H D I q => q.elim (h1.run pins s σ H D I) (h2.run pins s σ H D I)⟩
/-- f ahead, then it raises -/
theorem sxCons {st : Stmt} {rest : List Stmt} {f : SF} {fx : EF} (h : GS C X st f) (hr : PSs X rest (tXv C X.prog X.w X.K dc E fx)) : PSs X (st :: rest) (tXv C X.prog X.w X.K dc E (evSeqX f fx)) := by
  refine PSs.imp (pss_cons h hr) fun D σ H q => ?_
  obtain ⟨ρ, l, h, S, L, x, h', e, k⟩ := q
  unfold evSeqX at e
  split at e
  · rename_i l1 h1 ef
    exact ⟨ρ, l, h, S, L, .inl ⟨l1, h1, ef, fun ρ1 H1 σ1 x1 S1 L1 => ⟨ρ1, l1, h1, S1, L1, x, h', e, fun ρ2 H2 v d x2 S2 r2 hd => k ρ2 H2 v d (x1.trans x2) S2 r2 hd⟩⟩⟩
  · cases e
/-- it raises; what follows is not reached -/
theorem sxEnd {st : Stmt} {rest : List Stmt} {fx : EF} (h : PS X st (tXv C X.prog X.w X.K dc E fx)) : PSs X (st :: rest) (tXv C X.prog X.w X.K dc E fx) :=
  PSs.imp (pss_cons h (ssNo (C := C))) fun _ _ _ q => q
theorem sxIf {c : Expr} {b1 b2 : List Stmt} {ft : TF'} {fx : EF} {pos : Pos} (hc : GT C X c ft) (h : PSs X b1 (tXv C X.prog X.w X.K dc E fx)) : PS X (.If c b1 b2 pos) (tXv C X.prog X.w X.K dc E (evIfX ft fx)) := by
  refine PS.imp (ps_if hc h (ssNo (C := C))) fun D σ H q => ?_
  obtain ⟨ρ, l, h, S, L, x, h', e, k⟩ := q
  unfold evIfX at e
  split at e
  · rename_i h1 ef
    exact ⟨ρ, l, h, S, L, true, h1, ef, fun ρ1 H1 x1 S1 => iteT ⟨ρ1, l, h1, S1, L.mono x1, x, h', e, fun ρ2 H2 v d x2 S2 r2 hd => k ρ2 H2 v d (x1.trans x2) S2 r2 hd⟩⟩
  · cases e
/-- raise Double(e) -/
theorem sxRaise {a : Expr} {fa : EF} {p pos pos2 : Pos} (T : TxtD X.K X.mg) (hdc : T.dc = dc) (hc : X.calm = true) (hr : Room 2 X.A) (tk : Takes X fun cls d _ H => E cls d H) (ha : GE C X a fa) (hg : Gl X "Double" := by rfl)
    (h1 : starEach [a] X.env = (false, eval a X.env) :: starEach [] X.env := by rfl) (hpl : (backTo pos (starEach [] X.env)).any (·.1) = false := by rfl) :
    PS X (.Raise (some (.Call (.Name "Double" p) [a] [] pos)) none pos2) (tXv C X.prog X.w X.K dc E fa) := by
  subst hdc
  obtain ⟨fd, ps, F, hB⟩ := (ok_init (P := X.prog) (w := X.w) (base := X.base) T).ex
  refine PS.imp (ps_raise hc tk (pmk_oex T.oex T.iC T.tI F hr hB .nil pass0 hg T.g_dc (pa_cons ha pa_nil h1) (by decide) h1 hpl)) fun D σ H q => ?_
  obtain ⟨ρ, l, h, S, L, x, h', e, k⟩ := q
  refine ⟨ρ, l, h, S, L, x, h', e, fun ρ1 H1 v x1 S1 rv => ⟨(by show 1 ≤ 1000; decide), fun a na => ⟨a, v, rfl, upd_same, fun dx n ne => ⟨rfl, dx, [("rows", v)], upd_same, by rw [upd_ne ne, upd_same], ?_, ?_⟩⟩⟩⟩
  · rw [upd_ne ne] at n
    exact n
  · rw [upd_ne ne] at n
    have eq : upd (del (upd (upd (upd H1 a (exo a T.dc none)) dx (exd dx [("rows", v)])) a (exo a T.dc (some dx))) a) dx (.xd [("rows", v)]) = upd H1 dx (.xd [("rows", v)]) := by
      funext b
      by_cases hb : b = dx
      · rw [hb, upd_same, upd_same]
      · rw [upd_ne hb, upd_ne hb]
        by_cases hb2 : b = a
        · rw [hb2, del_same, na]
        · rw [del_ne hb2, upd_ne hb2, upd_ne hb, upd_ne hb2]
    rw [eq]
    exact k ρ1 _ v dx (x1.trans (Ext.fresh n)) (S1.fresh n) (rv.mono (Ext.fresh n)) upd_same
theorem sxFor {tg iter : Expr} {t : Tg} {fi : IF} {fb : SF} {fx : EF} {b1 : List Stmt} {pos : Pos} (hp : PassesOwn (model X.prog X.w) X.A X.env X.xe) (hc : X.calm = true) (hi : GI C X tg iter fi) (hg : PG X tg (tTg X.K t)) (hb : GSs C X b1 fb) (hx : PSs X b1 (tXv C X.prog X.w X.K dc E fx)) (hs : ∀ x, foldedSetIterable iter X.env x = pure x := by intro _; rfl) :
    PS X (.For tg iter b1 [] pos) (tXv C X.prog X.w X.K dc E (evForX fi t fb fx)) := by
  refine PS.imp (ps_for hp hc hi hg (PSs.or hb hx) hs) fun D σ H q => ?_
  obtain ⟨ρ, l, h, S, L, q⟩ := q
  cases es : fi l h with
  | none =>
    exfalso
    obtain ⟨x, h', e, k⟩ := q
    unfold evForX at e
    rw [es] at e
    cases e
  | some r =>
    obtain ⟨it, h1⟩ := r
    have ef : evForX fi t fb fx l h = loopX it t fb fx 4096 0 l h1 := by unfold evForX; rw [es]
    rw [ef] at q
    refine ⟨ρ, l, h, S, L, it, h1, es, fun ρ1 H1 J x1 S1 R => ?_⟩
    refine ⟨fun k m σ' H' => ∃ ρ' l' h', Ext X.K ρ1 H1 ρ' H' ∧ Sim C X.prog X.w X.K ρ' h' H' ∧ LR X.K ρ' H' l' σ' ∧ tKX C X.prog X.w X.K dc (loopX it t fb fx m k l' h') ρ H E, ⟨4096, ρ1, l, h1, .refl, S1, L.mono x1, q⟩, ?_⟩
    rintro k m σ2 H2 ⟨ρ2, l2, h2, x2, S2, L2, q2⟩
    cases m with
    | zero =>
      obtain ⟨_, _, e, _⟩ := q2
      cases e
    | succ m =>
      cases en : nextV it k h2 with
      | none =>
        exfalso
        obtain ⟨_, _, e, _⟩ := q2
        unfold loopX at e; rw [en] at e; cases e
      | some r =>
        cases r with
        | none =>
          exfalso
          obtain ⟨_, _, e, _⟩ := q2
          unfold loopX at e; rw [en] at e; cases e
        | some v =>
          obtain ⟨hgo, hy⟩ := (R ρ2 h2 H2 x2 S2 k).2 v en
          refine .inr ⟨hgo, fun σ' H' => ∃ ρ' l' h', Ext X.K ρ1 H1 ρ' H' ∧ Sim C X.prog X.w X.K ρ' h' H' ∧ LR X.K ρ' H' l' σ' ∧ tKX C X.prog X.w X.K dc (loopX it t fb fx m (k + 1) l' h') ρ H E, fun σ' H' n => ⟨m, Nat.lt_succ_self m, n⟩, fun x H3 y => ?_⟩
          obtain ⟨x3, S3, r3⟩ := hy x H3 y
          have L3 := L2.mono x3
          cases et : tgl it.sq t v l2 with
          | none =>
            exfalso
            obtain ⟨_, _, e, _⟩ := q2
            unfold loopX at e; rw [en] at e; simp only [] at e; rw [et] at e; cases e
          | some l3 =>
            refine tTgl_ev L3 r3 et fun σ4 L4 _ => ?_
            have x13 : Ext X.K ρ H ρ2 H3 := (x1.trans x2).trans x3
            cases eb : fb l3 h2 with
            | none =>
              have e : loopX it t fb fx (m + 1) k l2 h2 = fx l3 h2 := by
                rw [loopX, en]; simp only []; rw [et]; simp only []; rw [eb]
              rw [e] at q2
              obtain ⟨x, h', e, kk⟩ := q2
              exact .inr ⟨ρ2, l3, h2, S3, L4, x, h', e, fun ρ5 H5 v5 d x5 S5 r5 hd => kk ρ5 H5 v5 d (x13.trans x5) S5 r5 hd⟩
            | some r =>
              cases r with
              | nx l5 h5 =>
                refine .inl ⟨ρ2, l3, h2, S3, L4, .inl ⟨l5, h5, eb, fun ρ5 H5 σ5 x5 S5 L5 => ⟨ρ5, l5, h5, (x2.trans x3).trans x5, S5, L5, ?_⟩⟩⟩
                have e : loopX it t fb fx (m + 1) k l2 h2 = loopX it t fb fx m (k + 1) l5 h5 := by
                  rw [loopX, en]; simp only []; rw [et]; simp only []; rw [eb]
                rw [e] at q2
                exact q2
              | ret v5 h5 =>
                exfalso
                obtain ⟨_, _, e, _⟩ := q2
                rw [loopX, en] at e; simp only [] at e; rw [et] at e; simp only [] at e; rw [eb] at e; cases e
end
/-- a def that may raise keeps a promise -/
structure OkX (P : Program) (w : World) (K : PySem.W.Frag) (mg : Str → Option Value) (base : Heap) (k : Nat) (a : Addr) (sp : Sp) : Prop where
  ex : ∃ fd ps, FnOk P w K mg base (L2.CX P w) k a fd ps sp ∧ Binds K fd ps []
  kp : PySem.W.keepIn K (.ref a) = true
section
variable {C : Bd} {P : Program} {w : World} {K : PySem.W.Frag} {mg : Str → Option Value} {base : Heap} {dc : Addr}
theorem okX_def {x qual : Str} {st : Stmt} {a : Addr} {N ps : List Str} {k n m : Nat} {fx : EF} (D : DefF K x qual st ps a) (S : FnScope N ps (defScope st)) (hn : ps.length = n) (hN : N.length = n + m)
    (hb : ∀ (cdv : Value) (A : Around) (outer : List Env) (s : Shared) (H : Hp) (E : XK), Room k (A.deeper (envOfC qual (defScope st) s.heap.objs.size a cdv)) →
      PSs (cxOf (L2.CX P w) P w K mg base N qual (defScope st) a cdv A outer s H E) (defBody st) (tXv C P w K dc E fx)) : OkX P w K mg base (k + 1) a (spX C P w K dc n (evFunX n m fx)) := by
  obtain ⟨fd, F, hB⟩ := D.ex
  refine ⟨⟨fd, ps, ?_, hB⟩, F.kp⟩
  refine F.okX S (fun vs H Q E h => by rw [hn]; exact h.1) (fun cdv A outer s H vs Q E hr h => ?_)
  refine ⟨_, hb cdv A outer s H E hr, ?_⟩
  obtain ⟨hl, ρ, vh, xs, Sm, rs, v, h', e, kk⟩ := h
  rw [start_eq hl hN]
  unfold evFunX at e
  split at e
  · exact ⟨ρ, _, vh, Sm, LR.start rs, _, _, e, kk⟩
  · cases e
end
section
variable {C : Bd} {X : Cx} {dc : Addr} {E : XK}
def ArityX (n : Nat) (f : List SV → VH → EvR) : Prop := ∀ xs h r, f xs h = some r → xs.length = n
theorem arityX_fun {n m : Nat} {b : EF} : Arity n (evFunX n m b) := fun xs h r e => by
  unfold evFunX at e
  split at e
  · rename_i hb
    exact Nat.eq_of_beq_eq_true hb
  · cases e
/-- f(..) as a statement: it raises -/
theorem sxCall {x : Str} {e : Expr} {es : List Expr} {fs : AF} {p pos pos2 : Pos} {k n : Nat} {f : List SV → VH → EvR} {ad : Addr} (G : OkX X.prog X.w X.K X.mg X.base k ad (spX C X.prog X.w X.K dc n f)) (har : Arity n f) (hr : Room k X.A) (tk : Takes X fun cls d _ H => E cls d H) (hm : X.mg x = some (.ref ad)) (ha : GA C X (e :: es) fs)
    (hg : Gl X x := by rfl) (hdb : (x == ("__debug__" : Str)) = false := by decide)
    (he : starEach (e :: es) X.env = (false, eval e X.env) :: starEach es X.env := by rfl) (hpl : (backTo pos (starEach es X.env)).any (·.1) = false := by rfl) (hs : swapsWith (.Call (.Name x p) (e :: es) [] pos) none pos2.line X.env = pure false := by rfl) :
    PS X (.Expr (.Call (.Name x p) (e :: es) [] pos) pos2) (tXv C X.prog X.w X.K dc E (evArgs f fs)) := by
  obtain ⟨fd, ps, F, hB⟩ := G.ex
  refine PS.imp (ps_expr (pe_call (E := E) F hr hg hm G.kp hB .nil (passes_call tk fun _ _ _ _ h => h) ha hdb he hpl) hs) fun D σ H q => ?_
  obtain ⟨ρ, l, h, S, L, y, h', e, k⟩ := q
  unfold evArgs at e
  split at e
  · rename_i xs h1 ea
    refine ⟨ρ, l, h, S, L, xs, h1, ea, fun ρ1 H1 vs x1 S1 rs => ?_⟩
    show spX C X.prog X.w X.K dc n f (vs ++ []) H1 _ E
    rw [List.append_nil]
    exact ⟨by rw [← rs.length]; exact har _ _ _ e, ρ1, h1, xs, S1, rs, y, h', e, fun ρ2 H2 v d x2 S2 r2 hd => k ρ2 H2 v d (x1.trans x2) S2 r2 hd⟩
  · cases e
end
end Ev

namespace Ev
open PySem L2 PySem.Spec PyProof.Rows
theorem OkF.toS {C : Bd} {P : Program} {w : World} {K : PySem.W.Frag} {mg : Str → Option Value} {base : Heap} {k n : Nat} {a : Addr} {f : List SV → VH → EvR} (G : OkF C P w K mg base k a n f) : OkS P w K mg base k a (spEv C P w K n f) := ⟨G.ex, G.kp⟩
theorem OkS.mono {P : Program} {w : World} {K : PySem.W.Frag} {mg : Str → Option Value} {base : Heap} {j k : Nat} {a : Addr} {sp : Sp} (G : OkS P w K mg base j a sp) (h : j ≤ k) : OkS P w K mg base k a sp := by
  obtain ⟨fd, ps, F, hB⟩ := G.ex
  exact ⟨⟨fd, ps, F.mono h, hB⟩, G.kp⟩
/-- the def of the double: (4, 6) -/
def spDouble (C : Bd) (K : PySem.W.Frag) : Sp := fun vs H Q _ => vs = [] ∧ LamX.Tabs C.T H ∧ ∀ H' v, Ext K [] H [] H' → LamX.Tabs C.T H' → VR K [] H' (.tup [.int 4, .int 6]) v → Q v H'
/-- the law -/
def spLaw (C : Bd) (K : PySem.W.Frag) : Sp := fun vs H Q _ => ∃ (a : Addr) (ns : List Int), vs = [.ref a] ∧ SqL K H a (ns.map V.int) ∧ ns.length ≤ 63 ∧ LamX.Tabs C.T H ∧ ∀ H', Q (.bl true) H'
structure TxtM (K : PySem.W.Frag) (mg : Str → Option Value) extends TxtL K mg where
  law : Addr
  dbl : Addr
  d_law : DefF K "law" "law" s_law ["_law_script"] law
  g_dbl : mg "_law_double" = some (.ref dbl)
  b_min : mg "min" = none
  b_range : mg "range" = none
section
variable {C : Bd} {P : Program} {w : World} {K : PySem.W.Frag} {mg : Str → Option Value} {base : Heap}
theorem hCall0 {X : Cx} {k : Nat} {ad : Addr} {sp : Sp} {x : Str} {p pos : Pos} (G : OkS X.prog X.w X.K X.mg X.base k ad sp) (hr : Room k X.A) (hm : X.mg x = some (.ref ad)) (hg : Gl X x := by rfl) (hdb : (x == ("__debug__" : Str)) = false := by decide) :
    PE X (.Call (.Name x p) [] [] pos) (tCall sp [] E0 tNil) := by
  obtain ⟨fd, ps, F, hB⟩ := G.ex
  exact pe_call0 F hr hg hm G.kp hB .nil pass0 hdb
theorem hVal {X : Cx} {a : Expr} {ta : TE} (ha : PE X a ta) (he : ∀ whole, isTrue a X.env whole = (do let v ← whole; standAt a.pos; holding [v] (truthy v)) := by intro _; rfl) : PT X a (tTest ta) := pt_val ha he
theorem hRange {X : Cx} {tg a : Expr} {ta : TA} {p pos : Pos} (hm : X.mg "range" = none) (ha : PA X [a] ta) (hg : Gl X "range" := by rfl) (hs : starEach [a] X.env = [(false, eval a X.env)] := by rfl) : PI X tg (.Call (.Name "range" p) [a] [] pos) (iRng1 ta) := pi_range1 hg hm ha hs
theorem hFor {X : Cx} {tg iter : Expr} {body : List Stmt} {wi : TI} {g : TG} {tb : TS} {pos : Pos} (hp : PassesOwn (model X.prog X.w) X.A X.env X.xe) (hc : X.calm = true) (hi : PI X tg iter wi) (hg : PG X tg g) (hb : PSs X body tb)
    (hs : ∀ x, foldedSetIterable iter X.env x = pure x := by intro _; rfl) : PS X (.For tg iter body [] pos) (tFor wi g tb) := ps_for hp hc hi hg hb hs
theorem hAsg {X : Cx} {tg e : Expr} {te : TE} {g : TG} {pos : Pos} (h : PE X e te) (hg : PG X tg g) (hs : swapsWithSole [tg] e pos.line X.env = pure false := by rfl) (hw : swappedStores [tg] e X.env = pure none := by rfl) (h1 : (assignEach [tg] X.env).map (·.2) = [assign tg X.env] := by rfl) : PS X (.Assign [tg] e pos) (tAsg te g) := ps_asg h hg hs hw h1
theorem sc_law : FnScope ["_law_script", "_law_k", "_law_box_here", "_law_turn", "_law_which", "_law_found", "_law_due"] ["_law_script"] (defScope s_law) := ⟨rfl, rfl, rfl, by decide +kernel, rfl, by decide +kernel, by decide +kernel⟩
theorem sim0 {H : Hp} (t : LamX.Tabs C.T H) : Sim C P w K [] VH.empty H := ⟨rfl, List.nodup_nil, fun a h => absurd h (by simp), t, fun i o g => by cases g⟩
/-- a question put to an empty virtual heap -/
theorem ask {f : List SV → VH → EvR} {i : Int} {x : SV} {h' : VH} {H : Hp} {Q : VK} {E : XK} (e : f [.int i] VH.empty = some (x, h')) (t : LamX.Tabs C.T H) (k : ∀ ρ' H' v, Ext K [] H ρ' H' → Sim C P w K ρ' h' H' → VR K ρ' H' x v → Q v H') : spEv C P w K 1 f [.int i] H Q E :=
  ⟨rfl, [], VH.empty, [.int i], sim0 t, .cons (.int i) .nil, x, h', e, k⟩
/-- what was tracked ahead of a question stands behind it -/
theorem ext_keep {H H' : Hp} {ρ' : List Addr} (x : Ext K [] H ρ' H') {b : Addr} {o : HO} (h : H b = some o) (n : ∀ ps, o ≠ .tbl ps) : H' b = some o := (x.keep b o h (by simp) n).1
theorem ext_seq {H H' : Hp} {ρ' : List Addr} (x : Ext K [] H ρ' H') {a : Addr} {vs : List V} (h : SqL K H a vs) : SqL K H' a vs := by
  rcases h with (h | ⟨o, h⟩) | h
  · exact .inl (.inl (ext_keep x h fun _ z => by cases z))
  · exact .inl (.inr ⟨o, ext_keep x h fun _ z => by cases z⟩)
  · exact .inr h
/-- the checks of a turn, of a keeper's run -/
def chkQ (f : List SV → VH → EvR) (i : Int) : Bool := match f [.int i] VH.empty with
  | some (.tup [a, b], h) => (match f__law_same 8 [a, b] h with
    | some (.bl true, _) => true
    | _ => false)
  | _ => false
theorem chkQ_ok {f : List SV → VH → EvR} {i : Int} (e : chkQ f i = true) : ∃ a b h h2, f [.int i] VH.empty = some (.tup [a, b], h) ∧ f__law_same 8 [a, b] h = some (.bl true, h2) := by
  unfold chkQ at e
  split at e
  · rename_i a b h ef
    split at e
    · rename_i h2 es
      exact ⟨a, b, h, h2, ef, es⟩
    · cases e
  · cases e
def chkS (a b : SV) (h : VH) : Bool := match f__law_same 8 [a, b] h with
  | some (.bl true, _) => true
  | _ => false
theorem chkS_ok {a b : SV} {h : VH} (e : chkS a b h = true) : ∃ h2, f__law_same 8 [a, b] h = some (.bl true, h2) := by
  unfold chkS at e
  split at e
  · rename_i h2 es
    exact ⟨h2, es⟩
  · cases e
theorem seq_upd {H0 H : Hp} {a b : Addr} {vs : List V} {o : HO} (hb : H0 b = none) (h0 : SqL K H0 a vs) (h : SqL K H a vs) : SqL K (upd H b o) a vs := by
  rcases h0 with h0 | h0
  · have ne : a ≠ b := by
      intro z
      subst z
      rcases h0 with h0 | ⟨o', h0⟩ <;> (rw [hb] at h0; cases h0)
    rcases h with (h | ⟨o', h⟩) | h
    · exact .inl (.inl (by rw [upd_ne ne]; exact h))
    · exact .inl (.inr ⟨o', by rw [upd_ne ne]; exact h⟩)
    · exact .inr h
  · exact .inr h0
theorem tabs_upd {H : Hp} {b : Addr} {u o : HO} (hb : H b = some u) (n : NoCode u) (t : LamX.Tabs C.T H) : LamX.Tabs C.T (upd H b o) := fun q hq => tab_upd ⟨u, hb, n⟩ (t q hq)
theorem tabs_new {H : Hp} {b : Addr} {o : HO} (hb : H b = none) (t : LamX.Tabs C.T H) : LamX.Tabs C.T (upd H b o) := fun q hq => (t q hq).ext fun b u e => by rw [upd_ne (ne_of_none e hb)]; exact e
def chkK (t : Int) : Bool := match f__law_kept_right [.int t] VH.empty with
  | some (.bl true, _) => true
  | _ => false
theorem chkK_ok {t : Int} (e : chkK t = true) : ∃ h', f__law_kept_right [.int t] VH.empty = some (.bl true, h') := by
  unfold chkK at e
  split at e
  · rename_i h' ef
    exact ⟨h', ef⟩
  · cases e
theorem k4 : chkK 4 = true := by decide +kernel
theorem k7 : chkK 7 = true := by decide +kernel
theorem c0 : chkQ f__law_first 0 = true := by decide +kernel
theorem c1 : chkQ f__law_first 1 = true := by decide +kernel
theorem c2 : chkQ f__law_first 2 = true := by decide +kernel
theorem c3 : chkQ f__law_first 3 = true := by decide +kernel
theorem c4 : chkQ f__law_second 4 = true := by decide +kernel
theorem c5 : chkQ f__law_second 5 = true := by decide +kernel
theorem c6 : chkQ f__law_second 6 = true := by decide +kernel
theorem qfirst (i : Int) (h0 : 0 ≤ i) (h4 : i < 4) : chkQ f__law_first i = true := by
  have z : i = 0 ∨ i = 1 ∨ i = 2 ∨ i = 3 := by omega
  rcases z with rfl | rfl | rfl | rfl
  · exact c0
  · exact c1
  · exact c2
  · exact c3
theorem qsecond (i : Int) (h0 : 4 ≤ i) (h7 : i < 7) : chkQ f__law_second i = true := by
  have z : i = 4 ∨ i = 5 ∨ i = 6 := by omega
  rcases z with rfl | rfl | rfl
  · exact c4
  · exact c5
  · exact c6
theorem ite_q {i : Int} {G : (List SV → VH → EvR) → Prop} (h0 : 0 ≤ i) (h7 : i < 7) (k : ∀ f, chkQ f i = true → G f) : if decide (i < 4) = true then G f__law_first else G f__law_second :=
  ite2 (fun h => k _ (qfirst i h0 (of_decide_eq_true h))) fun h => k _ (qsecond i (by
    have z : ¬ i < 4 := fun z => h (decide_eq_true z)
    omega) h7)
theorem chk46 : chkS (.tup [.int 4, .int 6]) (.tup [.int 4, .int 6]) VH.empty = true := by decide +kernel
theorem ok_law {fd : FuncData} (T : Txt K mg C base) (L : TxtM K mg) (D : OkS P w K mg base 9 L.dbl (spDouble C K)) (F : Fun K "law" "law" s_law L.law fd) : FnOk P w K mg base CX0 10 L.law fd ["_law_script"] (spLaw C K) := by
  refine F.ok sc_law (fun vs H Q E h => ?_) fun cdv A outer s H vs Q E hr h => ?_
  · obtain ⟨a, ns, rfl, _⟩ := h
    rfl
  · obtain ⟨a, ns, rfl, hs, hz, ht, q⟩ := h
    have nd := sc_law.nd
    have S1 : OkS P w K mg base 8 _ _ := (ok__law_same (P := P) (w := w) (base := base) T 8).toS
    refine ⟨_, pss_cons (hFor PassesOwn.never rfl (hRange L.b_range (pa_cons (pe_op op_add pe_int (pe_callB (call_min2 rfl) (by rfl) L.b_min (by decide +kernel) (pa_cons pe_int (pa_cons (pe_callB call_len_seq (by rfl) L.b_len PySem.boot_len (pa_cons (pv 0) pa_nil)) pa_nil)))) pa_nil)) (gOne 1 nd)
        (pss_cons (hSet 2 nd (hCall (ok_box L.toTxtL) (hr.mono (by decide)) L.g_box (pa_cons (pv 0) (pa_cons (pv 1) pa_nil))))
        (pss_cons (hFor PassesOwn.never rfl (hRange L.b_range (pa_cons (pe_op op_add pe_int (hCall (ok_take L.toTxtL) (hr.mono (by decide)) L.g_take (pa_cons (pv 2) (pa_cons pe_int pa_nil)))) pa_nil)) (gOne 3 nd)
          (pss_cons (hSet 4 nd (hCall (ok_take L.toTxtL) (hr.mono (by decide)) L.g_take (pa_cons (pv 2) (pa_cons pe_int pa_nil))))
          (pss_cons (hAsg (pe_ifExp (hCmp op_lt (pv 4) pe_int) (hCall (ok__law_first T).toS (hr.mono (by decide)) T.g__law_first (pa_cons (pv 4) pa_nil)) (hCall (ok__law_second T).toS (hr.mono (by decide)) T.g__law_second (pa_cons (pv 4) pa_nil))) (gMany [5, 6] rfl (gsCons 5 nd (gsCons 6 nd gsNil))))
          (pss_one (ps_if (pt_not (hVal (hCall S1 (hr.mono (by decide)) T.g__law_same (pa_cons (pv 5) (pa_cons (pv 6) pa_nil))))) (pss_one (ps_ret pe_bl)) pss_nil)))))
        (pss_one (ps_if (pt_not (hVal (hCall (ok__law_kept_right T).toS (hr.mono (by decide)) T.g__law_kept_right (pa_cons (hIx ix_list (pe_lst (pa_cons pe_int (pa_cons pe_int pa_nil))) (hCall (ok_take L.toTxtL) (hr.mono (by decide)) L.g_take (pa_cons (pv 2) (pa_cons pe_int pa_nil)))) pa_nil)))) (pss_one (ps_ret pe_bl)) pss_nil)))))
      (pss_one (ps_ret (hCall S1 (hr.mono (by decide)) T.g__law_same (pa_cons (hCall0 D (hr.mono (by decide)) L.g_dbl) (pa_cons (pe_tupF (pa_cons pe_int (pa_cons pe_int pa_nil))) pa_nil))))), ?_⟩
    refine ⟨_, rfl, a, _, rfl, .inl hs, 6, _, rfl, 1, _, rfl, rfl, _, rfl, ?_, ?_, ?_⟩
    · split <;> omega
    · split <;> omega
    · refine ⟨fun i m σ H1 => σ[0]? = some (some (.ref a)) ∧ σ.length = 7 ∧ SqL K H1 a (ns.map V.int) ∧ LamX.Tabs C.T H1 ∧ m + i = 100, ⟨100, rfl, rfl, hs, ht, rfl⟩, fun i m σ H1 ⟨w1, w2, w3, w4, w5⟩ => ?_⟩
      by_cases hi : i < (1 + (if (((ns.map V.int).length : Nat) : Int) < 6 then (((ns.map V.int).length : Nat) : Int) else 6)).toNat
      · have hi7 : i < 7 := by
          split at hi <;> omega
        refine .inr ⟨hi, fun σ' H' => σ'[0]? = some (some (.ref a)) ∧ σ'.length = 7 ∧ SqL K H' a (ns.map V.int) ∧ LamX.Tabs C.T H', fun σ' H' ⟨v1, v2, v3, v4⟩ => ⟨m - 1, by omega, v1, v2, v3, v4, by omega⟩, fun x H' ⟨e1, e2⟩ => ?_⟩
        subst e1
        subst e2
        rw [Int.zero_add]
        obtain ⟨s0, s1, s2, s3, s4, s5, s6, rfl⟩ : ∃ s0 s1 s2 s3 s4 s5 s6, σ = [s0, s1, s2, s3, s4, s5, s6] := by
          match σ, w2 with
          | [s0, s1, s2, s3, s4, s5, s6], _ => exact ⟨s0, s1, s2, s3, s4, s5, s6, rfl⟩
        cases w1
        refine ⟨_, rfl, _, rfl, a, ns, i, rfl, w3, by omega, fun b x0 y0 hb hx hy hy2 => ?_⟩
        have w3' : SqL K (upd H' b (.lst [.int x0, .int y0, .int 0])) a (ns.map V.int) := seq_upd hb w3 w3
        have w4' : LamX.Tabs C.T (upd H' b (.lst [.int x0, .int y0, .int 0])) := tabs_new hb w4
        refine ⟨_, rfl, b, x0, y0, 0, 3, rfl, upd_same, hx, hy, hy2, by decide, by decide, by decide, by decide, fun r x1 c1 hr0 hr1 hx1 hc0 hc1 => ?_⟩
        refine ⟨1, r, rfl, rfl, 1 + r, rfl, by omega, by omega, ?_⟩
        refine ⟨fun i' m' σ2 H2 => ∃ x c, σ2[0]? = some (some (.ref a)) ∧ σ2[2]? = some (some (.ref b)) ∧ σ2.length = 7 ∧ SqL K H2 a (ns.map V.int) ∧ LamX.Tabs C.T H2 ∧ H2 b = some (.lst [.int x, .int y0, .int c]) ∧ 0 ≤ x ∧ 0 ≤ c ∧ c ≤ 1 + i' ∧ m' + i' = 100,
          ⟨100, x1, c1, rfl, rfl, rfl, seq_upd hb w3 w3', tabs_upd upd_same .lst w4', upd_same, hx1, hc0, by omega, rfl⟩, fun i' m' σ2 H2 ⟨x, c, z1, z2, z3, z4, z5, z6, z7, z8, z9, z10⟩ => ?_⟩
        obtain ⟨t0, t1, t2, t3, t4, t5, t6, rfl⟩ : ∃ s0 s1 s2 s3 s4 s5 s6, σ2 = [s0, s1, s2, s3, s4, s5, s6] := by
          match σ2, z3 with
          | [s0, s1, s2, s3, s4, s5, s6], _ => exact ⟨s0, s1, s2, s3, s4, s5, s6, rfl⟩
        cases z1
        cases z2
        by_cases hi' : i' < (1 + r).toNat
        · refine .inr ⟨hi', fun σ' H' => ∃ x c, σ'[0]? = some (some (.ref a)) ∧ σ'[2]? = some (some (.ref b)) ∧ σ'.length = 7 ∧ SqL K H' a (ns.map V.int) ∧ LamX.Tabs C.T H' ∧ H' b = some (.lst [.int x, .int y0, .int c]) ∧ 0 ≤ x ∧ 0 ≤ c ∧ c ≤ 2 + i',
            fun σ' H' ⟨x, c, v1, v2, v3, v4, v5, v6, v7, v8, v9⟩ => ⟨m' - 1, by omega, x, c, v1, v2, v3, v4, v5, v6, v7, v8, by omega, by omega⟩, fun xx H' ⟨e1, e2⟩ => ?_⟩
          subst e1
          subst e2
          refine ⟨_, rfl, b, x, y0, c, 7, rfl, z6, z7, hy, hy2, z8, by omega, by decide, by decide, fun r7 x2 c2 q0 q1 q2 q3 q4 => ?_⟩
          have u4 : SqL K (upd H' b (.lst [.int x2, .int y0, .int c2])) a (ns.map V.int) := seq_upd hb w3 z4
          have u5 : LamX.Tabs C.T (upd H' b (.lst [.int x2, .int y0, .int c2])) := tabs_upd z6 .lst z5
          refine ⟨_, rfl, r7, 4, rfl, rfl, _, rfl, ?_⟩
          refine ite_q (G := fun f => tCall (spEv C P w K 1 f) [] E0 (tCons (tVar 4) tNil) _ _ _) q0 q1 fun f ck => ?_
          obtain ⟨a1, b1, h1, h2, e1, e2⟩ := chkQ_ok ck
          refine ⟨_, rfl, ask (E := E0) e1 u5 fun ρ' H' v X S rv => ?_⟩
          cases rv with
          | tup h rs =>
            cases rs with
            | cons ra rs =>
              cases rs with
              | cons rb rs =>
                cases rs
                refine ⟨_, _, rfl, h.sq, rfl, _, _, rfl, _, _, rfl, rfl, ?_⟩
                refine ⟨_, rfl, _, rfl, rfl, ρ', h1, [a1, b1], S, .cons ra (.cons rb .nil), .bl true, h2, e2, fun ρ2 H3 v2 x3 S2 r2 => ?_⟩
                cases r2
                have XX := X.trans x3
                exact ⟨true, rfl, iteF ⟨x2, c2, rfl, rfl, rfl, ext_seq XX u4, S2.tab, (ext_keep XX upd_same fun _ z => by cases z), q2, by omega, by omega⟩⟩
        · refine .inl ⟨Nat.le_of_not_lt hi', ?_⟩
          refine ⟨by show 2 ≤ sizeLine; rw [sizeLine_eq]; decide, fun p hp => ?_⟩
          have pb : p ≠ b := Ne.symm (ne_of_none z6 hp)
          have z6' : upd H2 p (.lst [.int 4, .int 7]) b = some (.lst [.int x, .int y0, .int c]) := by rw [upd_ne (Ne.symm pb)]; exact z6
          refine ⟨_, rfl, b, x, y0, c, 2, rfl, z6', z7, hy, hy2, z8, by omega, by decide, by decide, fun r2 x2 c2 q0 q1 q2 q3 q4 => ?_⟩
          have u4 : SqL K (upd (upd H2 p (.lst [.int 4, .int 7])) b (.lst [.int x2, .int y0, .int c2])) a (ns.map V.int) := seq_upd hb w3 (seq_upd hp z4 z4)
          have u5 : LamX.Tabs C.T (upd (upd H2 p (.lst [.int 4, .int 7])) b (.lst [.int x2, .int y0, .int c2])) := tabs_upd z6' .lst (tabs_new hp z5)
          have u6 : SqL K (upd (upd H2 p (.lst [.int 4, .int 7])) b (.lst [.int x2, .int y0, .int c2])) p [.int 4, .int 7] := SqL.of (by rw [upd_ne pb]; exact upd_same)
          have hr2 : r2 = 0 ∨ r2 = 1 := by omega
          rcases hr2 with rfl | rfl
          · obtain ⟨h4, e4⟩ := chkK_ok k4
            refine ⟨p, _, 0, .int 4, rfl, rfl, u6, rfl, ask (E := E0) e4 u5 fun ρ' H' v X S rv => ?_⟩
            cases rv
            exact ⟨true, rfl, iteF ⟨rfl, rfl, ext_seq X u4, S.tab⟩⟩
          · obtain ⟨h4, e4⟩ := chkK_ok k7
            refine ⟨p, _, 1, .int 7, rfl, rfl, u6, rfl, ask (E := E0) e4 u5 fun ρ' H' v X S rv => ?_⟩
            cases rv
            exact ⟨true, rfl, iteF ⟨rfl, rfl, ext_seq X u4, S.tab⟩⟩
      · refine .inl ⟨Nat.le_of_not_lt hi, ?_⟩
        obtain ⟨h46, e46⟩ := chkS_ok chk46
        refine ⟨rfl, w4, fun H2 v x2 t2 rv => ⟨by decide, fun p o hd hp => ?_⟩⟩
        refine ⟨rfl, [], VH.empty, [.tup [.int 4, .int 6], .tup [.int 4, .int 6]], sim0 fun z hz => (t2 z hz).ext fun b u e => by rw [upd_ne (ne_of_none e hp)]; exact e, .cons (rv.mono (Ext.fresh hp)) (.cons (.tup (.inl ⟨o, upd_same, hd⟩) (.cons (.int 4) (.cons (.int 6) .nil))) .nil), .bl true, h46, e46, fun ρ3 H3 v3 x3 S3 r3 => ?_⟩
        cases r3
        exact q H3
end
end Ev

namespace Ev
open PySem L2 PySem.Spec PyProof.Rows
section
variable {C : Bd} {P : Program} {w : World} {K : PySem.W.Frag} {mg : Str → Option Value} {base : Heap}
def bx_look_doubles : EF := evSeqX (evAsg (.one 1) evNewT) (evForX (evEnumI (evCons (evVar 0) evNil)) (.many [2, 3]) (evSeq (evIfS (evTest (evBin inAll (evVar 3) (evVar 1))) evNoS evSkip) (evPut (evVar 1) (evVar 3) (evVar 2)))
  (evIfX (evTest (evBin inAll (evVar 3) (evVar 1))) (evArgs mkTup (evCons (evBin ixAll (evVar 1) (evVar 3)) (evCons (evVar 2) evNil)))))
def fx_look_doubles : List SV → VH → EvR := evFunX 1 3 bx_look_doubles
theorem okx_look_doubles (T : Txt K mg C base) (L : TxtD K mg) : OkX P w K mg base 3 (T.ad "look_doubles") (spX C P w K L.dc 1 fx_look_doubles) :=
  okX_def T.d_look_doubles sc_look_doubles rfl rfl fun cdv A outer s H E hr => by
    have S := sc_look_doubles
    have hun := hr.un
    have hu9 : (A.deeper (envOfC "look_doubles" (defScope s_look_doubles) s.heap.objs.size (T.ad "look_doubles") cdv)).units + 9 < cLine := by omega
    have hu66 : (A.deeper (envOfC "look_doubles" (defScope s_look_doubles) s.heap.objs.size (T.ad "look_doubles") cdv)).units + 66 < cLine := by omega
    exact sxCons (sSet 1 S.nd xNewT) (sxEnd (sxFor (passes_of rfl) rfl (iEnum T.b_enumerate (aCons (xVar 0) aNil)) (gMany [2, 3] rfl (gsCons 2 S.nd (gsCons 3 S.nd gsNil)))
      (ssCons (sIf (tCmp (op_inAll hu66) inAll_ok (xVar 3) (xVar 1)) (ssOne sNo) ssNil) (ssOne (sPut hu9 (xVar 1) (xVar 3) (xVar 2))))
      (sxEnd (sxIf (tCmp (op_inAll hu66) inAll_ok (xVar 3) (xVar 1)) (sxEnd (sxRaise L rfl rfl hr (takes_of rfl rfl rfl rfl) (xTup (aCons (xIx hu9 (xVar 1) (xVar 3)) (aCons (xVar 2) aNil)))))))))
def bx_folded : EF := evSeqX (evDrop (evArgs f_look_parted (evCons (evVar 0) (evCons (evVar 1) (evCons (evVar 2) (evCons (evVar 3) evNil)))))) (evSeqX (evDrop (evArgs f_look_order (evCons (evVar 4) evNil)))
  (evSeqX (evPar [5, 6] (evCons (evArgs f_parts_of (evCons (evVar 0) (evCons (evVar 1) evNil))) (evCons (evArgs f_parts_of (evCons (evVar 0) (evCons (evVar 2) evNil))) evNil)))
  (evSeqX (evAsg (.one 7) (evArgs lzP (evCons (evVar 5) (evCons (evVar 6) evNil)))) (evArgs fx_look_doubles (evCons (evVar 7) evNil)))))
def fx_folded : List SV → VH → EvR := evFunX 5 4 bx_folded
theorem okx_folded (T : Txt K mg C base) (L : TxtD K mg) : OkX P w K mg base 4 (T.ad "folded") (spX C P w K L.dc 5 fx_folded) :=
  okX_def T.d_folded sc_folded rfl rfl fun cdv A outer s H E hr => by
    have S := sc_folded
    have hr0 := hr
    exact sxCons (sExpr (xCall (ok_look_parted T) arity_fun (hr0.mono (by decide)) T.g_look_parted (aCons (xVar 0) (aCons (xVar 1) (aCons (xVar 2) (aCons (xVar 3) aNil))))))
      (sxCons (sExpr (xCall (ok_look_order T) arity_fun (hr0.mono (by decide)) T.g_look_order (aCons (xVar 4) aNil)))
      (sxCons (sPar2 5 6 rfl S.nd (by decide) (aCons (xCall (ok_parts_of T) arity_fun (hr0.mono (by decide)) T.g_parts_of (aCons (xVar 0) (aCons (xVar 1) aNil))) (aCons (xCall (ok_parts_of T) arity_fun (hr0.mono (by decide)) T.g_parts_of (aCons (xVar 0) (aCons (xVar 2) aNil))) aNil)))
      (sxCons (sSet 7 S.nd (xOfZip (zipR_list rfl) lzP_ok T.b_list (by decide +kernel) T.b_zip (aCons (xVar 5) (aCons (xVar 6) aNil))))
      (sxEnd (sxCall (okx_look_doubles T L) arityX_fun (hr0.mono (by decide)) (takes_of rfl rfl rfl rfl) T.g_look_doubles (aCons (xVar 7) aNil))))))
/-- _law_double up to the catch -/
def ar_double : AF := evCons (evVar 0) (evCons (evArgs mkLst (evCons (evC (.str "town")) evNil)) (evCons (evArgs mkLst (evCons (evC (.str "year")) (evCons (evC (.str "month")) evNil))) (evCons (evArgs mkLst (evCons (evC (.str "many")) evNil)) (evCons (evC (.str "seen")) evNil))))
def bx_double : EF := evSeqX (evAsg (.one 0) (evArgs f__law_few evNil)) (evSeqX (evAsg (.one 1) (evC .non)) (evArgs fx_folded ar_double))
def chkD : Bool := match bx_double [none, none, none] VH.empty with
  | some (.tup [.int i, .int j], _) => decide (i = 4) && decide (j = 6)
  | _ => false
theorem chkD_ok : chkD = true → ∃ l1 h1 l2 h2 xs h3 h4, evAsg (.one 0) (evArgs f__law_few evNil) [none, none, none] VH.empty = some (.nx l1 h1) ∧ evAsg (.one 1) (evC .non) l1 h1 = some (.nx l2 h2) ∧ ar_double l2 h2 = some (xs, h3) ∧ fx_folded xs h3 = some (.tup [.int 4, .int 6], h4) := fun e => by
  unfold chkD at e
  split at e
  · rename_i i j h4 eb
    obtain ⟨e1, e2⟩ := Bool.and_eq_true_iff.mp e
    cases of_decide_eq_true e1
    cases of_decide_eq_true e2
    unfold bx_double at eb
    rw [evSeqX] at eb
    split at eb
    · rename_i l1 h1 q1
      rw [evSeqX] at eb
      split at eb
      · rename_i l2 h2 q2
        rw [evArgs] at eb
        split at eb
        · rename_i xs h3 q3
          exact ⟨l1, h1, l2, h2, xs, h3, h4, q1, q2, q3, eb⟩
        · cases eb
      · cases eb
    · cases eb
  · cases e
theorem asg_len {i : Nat} {fa : EF} {l l' : Loc} {h h' : VH} (e : evAsg (.one i) fa l h = some (.nx l' h')) : l'.length = l.length := by
  unfold evAsg at e
  split at e
  · rename_i v h1 ea
    have t : tgv (.one i) v l = some (l.set i (some v)) := rfl
    rw [t] at e
    cases e
    exact List.length_set
  · cases e
theorem chkD_is : chkD = true := by decide +kernel
theorem sc_double : FnScope ["_law_table", "_law_found", "error"] [] (defScope s_double) := ⟨rfl, rfl, rfl, by decide +kernel, rfl, by decide +kernel, by decide +kernel⟩
theorem ok_double (T : Txt K mg C base) (L : TxtD K mg) : OkS P w K mg base 9 L.dbl (spDouble C K) := by
  refine OkS.mono (j := 5) ?_ (by decide)
  refine okS L.d_dbl sc_double (fun vs H Q E h => ?_) fun cdv A outer s H vs Q E hr h => ?_
  · obtain ⟨rfl, _⟩ := h
    rfl
  · obtain ⟨rfl, ht, q⟩ := h
    have S := sc_double
    have hr0 := hr
    have GF := okx_folded (P := P) (w := w) (base := base) T L
    obtain ⟨fd, ps, F, hB⟩ := GF.ex
    refine ⟨_, pss_cons (t := tSv C P w K (evAsg (.one 0) (evArgs f__law_few evNil))) (sSet 0 S.nd (xCall0 (ok__law_few T) arity_fun (hr0.mono (by decide)) T.g__law_few)) (pss_cons (t := tSv C P w K (evAsg (.one 1) (evC .non))) (sSet 1 S.nd xNon)
      (pss_cons (ps_try_as (i := 2) (tb := fun W => tDrop (tCallS (spX C P w K L.dc 5 fx_folded) (WE W) (tAv C P w K ar_double))) (ts := fun a cls d => tAsg (tXf a cls d L.dc "rows" (tVar 2)) (gName 1)) (Wout := fun _ _ _ _ => False) rfl rfl S.nd rfl rfl ⟨rfl, by decide, Or.inl L.g_dc⟩ takes0
          (fun W pn xe tk _ => pss_one (ps_expr (pe_callS F (hr0.mono (by decide)) rfl T.g_folded GF.kp hB (fun σ => passAt tk σ) (by exact aCons (xVar 0) (aCons (xLst (aCons xStr aNil)) (aCons (xLst (aCons xStr (aCons xStr aNil))) (aCons (xLst (aCons xStr aNil)) (aCons xStr aNil))))))))
          (fun a oe cls d pn hz hf => pss_one (ps_set (i := 1) S.nd rfl (Or.inl rfl) (by exact (pe_xf L.xf L.no_rows hz hf (pv 2))))))
      (pss_one (ps_ret (pv 1))))), ?_⟩
    obtain ⟨l1, h1, l2, h2, xs, h3, h4, e1, e2, e3, e4⟩ := chkD_ok chkD_is
    refine ⟨[], [none, none, none], VH.empty, sim0 ht, LR.start (xs := []) (vs := []) (m := 3) .nil, .inl ⟨l1, h1, e1, fun ρ1 H1 σ1 x1 S1 L1 => ⟨ρ1, l1, h1, S1, L1, .inl ⟨l2, h2, e2, fun ρ2 H2 σ2 x2 S2 L2 => ?_⟩⟩⟩⟩
    refine ⟨ρ2, l2, h2, S2, L2, xs, h3, e3, fun ρ3 H3 vs x3 S3 rs => ⟨?_, ρ3, h3, xs, S3, rs, .tup [.int 4, .int 6], h4, e4, fun ρ4 H4 v d x4 S4 rv hd => ?_⟩⟩
    · rw [← rs.length]
      exact arityX_fun _ _ _ e4
    · have hl : σ2.length = 3 := by
        rw [← L2.len, asg_len e2, asg_len e1]
        rfl
      obtain ⟨s0, s1, s2, rfl⟩ : ∃ s0 s1 s2, σ2 = [s0, s1, s2] := by
        match σ2, hl with
        | [s0, s1, s2], _ => exact ⟨s0, s1, s2, rfl⟩
      refine ⟨true, L.xm, fun _ a ha => ?_, fun z => by cases z⟩
      refine ⟨_, rfl, rfl, rfl, d, _, v, rfl, hd, rfl, ?_⟩
      refine ⟨v, rfl, ?_⟩
      have x : Ext K [] H ρ4 H4 := ((x1.trans x2).trans x3).trans x4
      refine q H4 v ⟨⟨[], rfl⟩, fun b o e n nt => ⟨(x.keep b o e n nt).1, by simp⟩, x.frz⟩ S4.tab ?_
      cases rv with
      | tup h r =>
        refine .tup h ?_
        cases r with
        | cons r1 r2 =>
          cases r1
          cases r2 with
          | cons r1 r2 =>
            cases r1
            cases r2
            exact .cons (.int 4) (.cons (.int 6) .nil)
end
end Ev

set_option maxHeartbeats 0
namespace Ev
open PySem L2 PySem.Spec PyProof.Rows EvH
theorem tfB_ok {K : PySem.W.Frag} {x : Str} {vs : List Str} (h : tfB K x vs = true) (H : Hp) : TF K H (He.ga K x) (vs.map V.str) := by
  unfold tfB at h
  split at h
  · rename_i c its n sl ho
    obtain ⟨h1, h2⟩ := He.ba h
    obtain ⟨h3, h4⟩ := He.ba h2
    exact .inr ⟨_, its, n, ho, congrArg Value.type (of_decide_eq_true h1), rfl, rfl, of_decide_eq_true h3, He.relAll_ok h4⟩
  · cases h

def kindOf : String → Sum He.Defn (He.Defn × Bool)
  | "is_number" => .inl (("is_number" : Str), (none : Option Str))
  | "rank" => .inl (("rank" : Str), (none : Option Str))
  | "ranks" => .inl (("ranks" : Str), (none : Option Str))
  | "stands_ahead" => .inl (("stands_ahead" : Str), (none : Option Str))
  | "risen" => .inl (("risen" : Str), (none : Option Str))
  | "places_of" => .inl (("places_of" : Str), (none : Option Str))
  | "at_places" => .inl (("at_places_tables" : Str), (none : Option Str))
  | "parts_of" => .inl (("parts_of" : Str), (none : Option Str))
  | "kept" => .inl (("kept" : Str), (none : Option Str))
  | "numbers_by" => .inl (("numbers_by" : Str), (none : Option Str))
  | "look_parted" => .inl (("look_parted" : Str), (none : Option Str))
  | "look_order" => .inl (("look_order" : Str), (none : Option Str))
  | "unlike_ones" => .inl (("unlike_ones" : Str), (none : Option Str))
  | "heads_by" => .inl (("heads_by" : Str), (none : Option Str))
  | "look_doubles" => .inl (("look_doubles" : Str), (none : Option Str))
  | "wide_of" => .inl (("wide_of" : Str), (none : Option Str))
  | "folded" => .inl (("folded" : Str), (none : Option Str))
  | "unfolded" => .inl (("unfolded" : Str), (none : Option Str))
  | "gaps" => .inl (("gaps" : Str), (none : Option Str))
  | "sum_of" => .inl (("sum_of" : Str), (none : Option Str))
  | "last_of" => .inl (("last_of" : Str), (none : Option Str))
  | "put_together" => .inl (("put_together" : Str), (none : Option Str))
  | "look_ways" => .inl (("look_ways_foldby" : Str), (none : Option Str))
  | "rows_at" => .inl (("rows_at" : Str), (none : Option Str))
  | "cell_of" => .inl (("cell_of" : Str), (none : Option Str))
  | "folded_by" => .inl (("folded_by" : Str), (none : Option Str))
  | "look_unlike" => .inl (("look_unlike" : Str), (none : Option Str))
  | "sources" => .inl (("sources" : Str), (none : Option Str))
  | "rolled" => .inl (("rolled" : Str), (none : Option Str))
  | "cut_tuples" => .inl (("cut_tuples" : Str), (none : Option Str))
  | "cells_together" => .inl (("cells_together" : Str), (none : Option Str))
  | "look_ways2" => .inl (("look_ways" : Str), (none : Option Str))
  | "added" => .inl (("added" : Str), (none : Option Str))
  | "margins" => .inl (("margins" : Str), (none : Option Str))
  | "holds" => .inl (("holds" : Str), (none : Option Str))
  | "look_columns" => .inl (("look_columns" : Str), (none : Option Str))
  | "look_words" => .inl (("look_words" : Str), (none : Option Str))
  | "looked" => .inl (("looked" : Str), (none : Option Str))
  | "rows_where" => .inl (("rows_where" : Str), (none : Option Str))
  | "look_question" => .inl (("look_question" : Str), (none : Option Str))
  | "each_once" => .inl (("each_once" : Str), (none : Option Str))
  | "answer" => .inl (("answer" : Str), (none : Option Str))
  | "answer_wide" => .inl (("answer_wide" : Str), (none : Option Str))
  | "K_init" => .inl (("Keeper" : Str), (some "__init__" : Option Str))
  | "K_place_of" => .inl (("Keeper" : Str), (some "place_of" : Option Str))
  | "K_cell_of" => .inl (("Keeper" : Str), (some "cell_of" : Option Str))
  | "K_found_anew" => .inl (("Keeper" : Str), (some "found_anew" : Option Str))
  | "K_put_at" => .inl (("Keeper" : Str), (some "put_at" : Option Str))
  | "K_taken" => .inl (("Keeper" : Str), (some "taken" : Option Str))
  | "K_put_row" => .inl (("Keeper" : Str), (some "put_row" : Option Str))
  | "K_take_row" => .inl (("Keeper" : Str), (some "take_row" : Option Str))
  | "K_undo" => .inl (("Keeper" : Str), (some "undo" : Option Str))
  | "K_wide_now" => .inl (("Keeper" : Str), (some "wide_now" : Option Str))
  | "turned" => .inl (("turned" : Str), (none : Option Str))
  | "without" => .inl (("without" : Str), (none : Option Str))
  | "to_key" => .inl (("to_key" : Str), (none : Option Str))
  | "told_list" => .inl (("told_list" : Str), (none : Option Str))
  | "places_in" => .inl (("places_in" : Str), (none : Option Str))
  | "at_places2" => .inl (("at_places" : Str), (none : Option Str))
  | "heads_in" => .inl (("heads_in" : Str), (none : Option Str))
  | "cell_rank" => .inl (("cell_rank" : Str), (none : Option Str))
  | "parts_by" => .inl (("parts_by" : Str), (none : Option Str))
  | "value_text" => .inl (("value_text" : Str), (none : Option Str))
  | "words_text" => .inl (("words_text" : Str), (none : Option Str))
  | "cell_text" => .inl (("cell_text" : Str), (none : Option Str))
  | "wide_text" => .inl (("wide_text" : Str), (none : Option Str))
  | "_law_same" => .inl (("_law_same" : Str), (none : Option Str))
  | "_law_sales" => .inl (("_law_sales" : Str), (none : Option Str))
  | "_law_by_town" => .inl (("_law_by_town" : Str), (none : Option Str))
  | "_law_few" => .inl (("_law_few" : Str), (none : Option Str))
  | "_law_first" => .inl (("_law_first" : Str), (none : Option Str))
  | "_law_second" => .inl (("_law_second" : Str), (none : Option Str))
  | "_law_kept_right" => .inl (("_law_kept_right" : Str), (none : Option Str))
  | "_law_taken" => .inl (("_law_taken" : Str), (none : Option Str))
  | "c_places_in" => .inr (("places_in", none), true)
  | "P_places_in" => .inr (("places_in", none), false)
  | "c_parts_by" => .inr (("parts_by", none), true)
  | "P_parts_by" => .inr (("parts_by", none), false)
  | _ => .inl ("", none)
def adK (K : PySem.W.Frag) (s : String) : Addr := match kindOf s with
  | .inl p => He.fAd K p
  | .inr (p, true) => (He.cT K p).1
  | .inr (p, false) => (He.cT K p).2
theorem adK_l {K : PySem.W.Frag} {s : String} {p : He.Defn} (h : kindOf s = .inl p) : adK K s = He.fAd K p := by unfold adK; rw [h]
theorem adK_c {K : PySem.W.Frag} {s : String} {p : He.Defn} (h : kindOf s = .inr (p, true)) : adK K s = (He.cT K p).1 := by unfold adK; rw [h]
theorem adK_p {K : PySem.W.Frag} {s : String} {p : He.Defn} (h : kindOf s = .inr (p, false)) : adK K s = (He.cT K p).2 := by unfold adK; rw [h]
theorem k_is_number : kindOf "is_number" = .inl (("is_number" : Str), (none : Option Str)) := by kernel_rfl
theorem k_rank : kindOf "rank" = .inl (("rank" : Str), (none : Option Str)) := by kernel_rfl
theorem k_ranks : kindOf "ranks" = .inl (("ranks" : Str), (none : Option Str)) := by kernel_rfl
theorem k_stands_ahead : kindOf "stands_ahead" = .inl (("stands_ahead" : Str), (none : Option Str)) := by kernel_rfl
theorem k_risen : kindOf "risen" = .inl (("risen" : Str), (none : Option Str)) := by kernel_rfl
theorem k_places_of : kindOf "places_of" = .inl (("places_of" : Str), (none : Option Str)) := by kernel_rfl
theorem k_at_places : kindOf "at_places" = .inl (("at_places_tables" : Str), (none : Option Str)) := by kernel_rfl
theorem k_parts_of : kindOf "parts_of" = .inl (("parts_of" : Str), (none : Option Str)) := by kernel_rfl
theorem k_kept : kindOf "kept" = .inl (("kept" : Str), (none : Option Str)) := by kernel_rfl
theorem k_numbers_by : kindOf "numbers_by" = .inl (("numbers_by" : Str), (none : Option Str)) := by kernel_rfl
theorem k_look_parted : kindOf "look_parted" = .inl (("look_parted" : Str), (none : Option Str)) := by kernel_rfl
theorem k_look_order : kindOf "look_order" = .inl (("look_order" : Str), (none : Option Str)) := by kernel_rfl
theorem k_unlike_ones : kindOf "unlike_ones" = .inl (("unlike_ones" : Str), (none : Option Str)) := by kernel_rfl
theorem k_heads_by : kindOf "heads_by" = .inl (("heads_by" : Str), (none : Option Str)) := by kernel_rfl
theorem k_look_doubles : kindOf "look_doubles" = .inl (("look_doubles" : Str), (none : Option Str)) := by kernel_rfl
theorem k_wide_of : kindOf "wide_of" = .inl (("wide_of" : Str), (none : Option Str)) := by kernel_rfl
theorem k_folded : kindOf "folded" = .inl (("folded" : Str), (none : Option Str)) := by kernel_rfl
theorem k_unfolded : kindOf "unfolded" = .inl (("unfolded" : Str), (none : Option Str)) := by kernel_rfl
theorem k_gaps : kindOf "gaps" = .inl (("gaps" : Str), (none : Option Str)) := by kernel_rfl
theorem k_sum_of : kindOf "sum_of" = .inl (("sum_of" : Str), (none : Option Str)) := by kernel_rfl
theorem k_last_of : kindOf "last_of" = .inl (("last_of" : Str), (none : Option Str)) := by kernel_rfl
theorem k_put_together : kindOf "put_together" = .inl (("put_together" : Str), (none : Option Str)) := by kernel_rfl
theorem k_look_ways : kindOf "look_ways" = .inl (("look_ways_foldby" : Str), (none : Option Str)) := by kernel_rfl
theorem k_rows_at : kindOf "rows_at" = .inl (("rows_at" : Str), (none : Option Str)) := by kernel_rfl
theorem k_cell_of : kindOf "cell_of" = .inl (("cell_of" : Str), (none : Option Str)) := by kernel_rfl
theorem k_folded_by : kindOf "folded_by" = .inl (("folded_by" : Str), (none : Option Str)) := by kernel_rfl
theorem k_look_unlike : kindOf "look_unlike" = .inl (("look_unlike" : Str), (none : Option Str)) := by kernel_rfl
theorem k_sources : kindOf "sources" = .inl (("sources" : Str), (none : Option Str)) := by kernel_rfl
theorem k_rolled : kindOf "rolled" = .inl (("rolled" : Str), (none : Option Str)) := by kernel_rfl
theorem k_cut_tuples : kindOf "cut_tuples" = .inl (("cut_tuples" : Str), (none : Option Str)) := by kernel_rfl
theorem k_cells_together : kindOf "cells_together" = .inl (("cells_together" : Str), (none : Option Str)) := by kernel_rfl
theorem k_look_ways2 : kindOf "look_ways2" = .inl (("look_ways" : Str), (none : Option Str)) := by kernel_rfl
theorem k_added : kindOf "added" = .inl (("added" : Str), (none : Option Str)) := by kernel_rfl
theorem k_margins : kindOf "margins" = .inl (("margins" : Str), (none : Option Str)) := by kernel_rfl
theorem k_holds : kindOf "holds" = .inl (("holds" : Str), (none : Option Str)) := by kernel_rfl
theorem k_look_columns : kindOf "look_columns" = .inl (("look_columns" : Str), (none : Option Str)) := by kernel_rfl
theorem k_look_words : kindOf "look_words" = .inl (("look_words" : Str), (none : Option Str)) := by kernel_rfl
theorem k_looked : kindOf "looked" = .inl (("looked" : Str), (none : Option Str)) := by kernel_rfl
theorem k_rows_where : kindOf "rows_where" = .inl (("rows_where" : Str), (none : Option Str)) := by kernel_rfl
theorem k_look_question : kindOf "look_question" = .inl (("look_question" : Str), (none : Option Str)) := by kernel_rfl
theorem k_each_once : kindOf "each_once" = .inl (("each_once" : Str), (none : Option Str)) := by kernel_rfl
theorem k_answer : kindOf "answer" = .inl (("answer" : Str), (none : Option Str)) := by kernel_rfl
theorem k_answer_wide : kindOf "answer_wide" = .inl (("answer_wide" : Str), (none : Option Str)) := by kernel_rfl
theorem k_K_init : kindOf "K_init" = .inl (("Keeper" : Str), (some "__init__" : Option Str)) := by kernel_rfl
theorem k_K_place_of : kindOf "K_place_of" = .inl (("Keeper" : Str), (some "place_of" : Option Str)) := by kernel_rfl
theorem k_K_cell_of : kindOf "K_cell_of" = .inl (("Keeper" : Str), (some "cell_of" : Option Str)) := by kernel_rfl
theorem k_K_found_anew : kindOf "K_found_anew" = .inl (("Keeper" : Str), (some "found_anew" : Option Str)) := by kernel_rfl
theorem k_K_put_at : kindOf "K_put_at" = .inl (("Keeper" : Str), (some "put_at" : Option Str)) := by kernel_rfl
theorem k_K_taken : kindOf "K_taken" = .inl (("Keeper" : Str), (some "taken" : Option Str)) := by kernel_rfl
theorem k_K_put_row : kindOf "K_put_row" = .inl (("Keeper" : Str), (some "put_row" : Option Str)) := by kernel_rfl
theorem k_K_take_row : kindOf "K_take_row" = .inl (("Keeper" : Str), (some "take_row" : Option Str)) := by kernel_rfl
theorem k_K_undo : kindOf "K_undo" = .inl (("Keeper" : Str), (some "undo" : Option Str)) := by kernel_rfl
theorem k_K_wide_now : kindOf "K_wide_now" = .inl (("Keeper" : Str), (some "wide_now" : Option Str)) := by kernel_rfl
theorem k_turned : kindOf "turned" = .inl (("turned" : Str), (none : Option Str)) := by kernel_rfl
theorem k_without : kindOf "without" = .inl (("without" : Str), (none : Option Str)) := by kernel_rfl
theorem k_to_key : kindOf "to_key" = .inl (("to_key" : Str), (none : Option Str)) := by kernel_rfl
theorem k_told_list : kindOf "told_list" = .inl (("told_list" : Str), (none : Option Str)) := by kernel_rfl
theorem k_places_in : kindOf "places_in" = .inl (("places_in" : Str), (none : Option Str)) := by kernel_rfl
theorem k_at_places2 : kindOf "at_places2" = .inl (("at_places" : Str), (none : Option Str)) := by kernel_rfl
theorem k_heads_in : kindOf "heads_in" = .inl (("heads_in" : Str), (none : Option Str)) := by kernel_rfl
theorem k_cell_rank : kindOf "cell_rank" = .inl (("cell_rank" : Str), (none : Option Str)) := by kernel_rfl
theorem k_parts_by : kindOf "parts_by" = .inl (("parts_by" : Str), (none : Option Str)) := by kernel_rfl
theorem k_value_text : kindOf "value_text" = .inl (("value_text" : Str), (none : Option Str)) := by kernel_rfl
theorem k_words_text : kindOf "words_text" = .inl (("words_text" : Str), (none : Option Str)) := by kernel_rfl
theorem k_cell_text : kindOf "cell_text" = .inl (("cell_text" : Str), (none : Option Str)) := by kernel_rfl
theorem k_wide_text : kindOf "wide_text" = .inl (("wide_text" : Str), (none : Option Str)) := by kernel_rfl
theorem k__law_same : kindOf "_law_same" = .inl (("_law_same" : Str), (none : Option Str)) := by kernel_rfl
theorem k__law_sales : kindOf "_law_sales" = .inl (("_law_sales" : Str), (none : Option Str)) := by kernel_rfl
theorem k__law_by_town : kindOf "_law_by_town" = .inl (("_law_by_town" : Str), (none : Option Str)) := by kernel_rfl
theorem k__law_few : kindOf "_law_few" = .inl (("_law_few" : Str), (none : Option Str)) := by kernel_rfl
theorem k__law_first : kindOf "_law_first" = .inl (("_law_first" : Str), (none : Option Str)) := by kernel_rfl
theorem k__law_second : kindOf "_law_second" = .inl (("_law_second" : Str), (none : Option Str)) := by kernel_rfl
theorem k__law_kept_right : kindOf "_law_kept_right" = .inl (("_law_kept_right" : Str), (none : Option Str)) := by kernel_rfl
theorem k__law_taken : kindOf "_law_taken" = .inl (("_law_taken" : Str), (none : Option Str)) := by kernel_rfl
theorem kc_places_in : kindOf "c_places_in" = .inr (("places_in", none), true) := by kernel_rfl
theorem kp_places_in : kindOf "P_places_in" = .inr (("places_in", none), false) := by kernel_rfl
theorem kc_parts_by : kindOf "c_parts_by" = .inr (("parts_by", none), true) := by kernel_rfl
theorem kp_parts_by : kindOf "P_parts_by" = .inr (("parts_by", none), false) := by kernel_rfl
section
variable {K : PySem.W.Frag} {mg : Str → Option Value} {h : Heap}
theorem fun_of {x qual : Str} {st : Stmt} {ps : List Str} {f : Addr} {fd : FuncData} (F : FunD K x qual (defArgs st) (defBody st) (defScope st) [] [] f fd) : Fun K x qual st f fd := by
  obtain ⟨oc, od, dV, kV, doc, pm, an, cdv, ct, osl, e, lk, cd, d, _⟩ := F.ex
  rcases d with ⟨_, rfl⟩ | ⟨n, _⟩
  · exact ⟨⟨oc, od, kV, doc, pm, an, cdv, ct, osl, e, lk, cd⟩, F.kp⟩
  · exact absurd rfl n
def BA (x qual : Str) (st : Stmt) (ps : List Str) : Prop := ∀ (kV doc pm : Value) (an : Option Addr) (cdv ct : Value) (us : List Value), us.length = ps.length → bindArgs (PySem.W.fnOf x qual (defArgs st) (defBody st) (defScope st) .none kV doc pm an cdv ct) ⟨us, []⟩ = pure (ps.zip us)
theorem defF_of {x qual : Str} {st : Stmt} {ps : List Str} {f : Addr} (F : ∃ fd, FunD K x qual (defArgs st) (defBody st) (defScope st) [] [] f fd) (hb : BA x qual st ps) : DefF K x qual st ps f := by
  obtain ⟨fd, F⟩ := F
  have F2 := fun_of (ps := ps) F
  exact ⟨fd, F2, F2.binds hb⟩
theorem defA_of {x qual : Str} {st : Stmt} {ps : List Str} {s : String} {p : He.Defn} (k : kindOf s = .inl p) (F : ∃ fd, FunD K x qual (defArgs st) (defBody st) (defScope st) [] [] (He.fAd K p) fd) (hb : BA x qual st ps) : DefF K x qual st ps (adK K s) := by
  rw [adK_l k]
  exact defF_of F hb
theorem defC_of {x qual : Str} {st : Stmt} {ps : List Str} {s c : String} {p : He.Defn} (k : kindOf s = .inl p) (kc : kindOf c = .inr (p, true)) (F : ∃ fd, FunD K x qual (defArgs st) (defBody st) (defScope st) [] [] (He.fAd K p) fd) (hb : BA x qual st ps) : DefC K x qual st ps (adK K s) (adK K c) := by
  rw [adK_l k, adK_c kc]
  obtain ⟨fd, F⟩ := F
  have F2 := fun_of (ps := ps) F
  obtain ⟨oc, od, kV, doc, pm, an, cdv, ct, osl, e, lk, cd⟩ := F2.ex
  obtain ⟨c, rfl⟩ := He.codeIn_ref cd
  subst e
  have ec : (He.cT K p).1 = c := He.codeOf_eq lk rfl
  rw [ec]
  exact ⟨⟨oc, od, kV, doc, pm, an, ct, osl, lk, cd, F2.binds hb⟩, F2.kp⟩
theorem gloA (X : K.In h) (G : h.Ns mainGlobals mg) {x : Str} {s : String} (k : kindOf s = .inl (x, none)) (c : (He.Fa.glo x).ok K = true) : mg x = some (.ref (adK K s)) := by
  rw [adK_l k]
  exact He.glo_ok X G c
theorem gloE (X : K.In h) (G : h.Ns mainGlobals mg) {x y : Str} {s : String} (k : kindOf s = .inl (y, none)) (c : (He.Fa.glo x).ok K = true) (e : decide (He.ga K x = He.ga K y) = true) : mg x = some (.ref (adK K s)) := by
  rw [adK_l k]
  show mg x = some (Value.ref (He.ga K y))
  rw [← of_decide_eq_true e]
  exact He.glo_ok X G c
theorem methA {m : Str} {s : String} (k : kindOf s = .inl (("Keeper" : Str), some m)) (c : (He.Fa.meth "Keeper" m).ok K = true) : Meth K (He.ga K "Keeper") m (adK K s) := by
  rw [adK_l k]
  exact He.meth_ok c
theorem mkrA {s : String} (k : kindOf s = .inl (("Keeper" : Str), some ("__init__" : Str))) (c : (He.Fa.mkr "Keeper").ok K = true) : Mk K (He.ga K "Keeper") (adK K s) := by
  rw [adK_l k]
  exact He.mkr_ok c
end
theorem ba_is_number : BA "is_number" "is_number" s_is_number ["thing"] := fun _ _ _ _ _ _ us hl => match us, hl with
  | [_], _ => rfl
theorem ba_rank : BA "rank" "rank" s_rank ["value"] := fun _ _ _ _ _ _ us hl => match us, hl with
  | [_], _ => rfl
theorem ba_ranks : BA "ranks" "ranks" s_ranks ["values"] := fun _ _ _ _ _ _ us hl => match us, hl with
  | [_], _ => rfl
theorem ba_stands_ahead : BA "stands_ahead" "stands_ahead" s_stands_ahead ["one", "other"] := fun _ _ _ _ _ _ us hl => match us, hl with
  | [_, _], _ => rfl
theorem ba_risen : BA "risen" "risen" s_risen ["values"] := fun _ _ _ _ _ _ us hl => match us, hl with
  | [_], _ => rfl
theorem ba_places_of : BA "places_of" "places_of" s_places_of ["table", "names"] := fun _ _ _ _ _ _ us hl => match us, hl with
  | [_, _], _ => rfl
theorem ba_at_places : BA "at_places" "at_places" s_at_places ["row", "places"] := fun _ _ _ _ _ _ us hl => match us, hl with
  | [_, _], _ => rfl
theorem ba_parts_of : BA "parts_of" "parts_of" s_parts_of ["table", "names"] := fun _ _ _ _ _ _ us hl => match us, hl with
  | [_, _], _ => rfl
theorem ba_kept : BA "kept" "kept" s_kept ["table", "names"] := fun _ _ _ _ _ _ us hl => match us, hl with
  | [_, _], _ => rfl
theorem ba_numbers_by : BA "numbers_by" "numbers_by" s_numbers_by ["parts"] := fun _ _ _ _ _ _ us hl => match us, hl with
  | [_], _ => rfl
theorem ba_look_parted : BA "look_parted" "look_parted" s_look_parted ["table", "key", "names", "values"] := fun _ _ _ _ _ _ us hl => match us, hl with
  | [_, _, _, _], _ => rfl
theorem ba_look_order : BA "look_order" "look_order" s_look_order ["order"] := fun _ _ _ _ _ _ us hl => match us, hl with
  | [_], _ => rfl
theorem ba_unlike_ones : BA "unlike_ones" "unlike_ones" s_unlike_ones ["some"] := fun _ _ _ _ _ _ us hl => match us, hl with
  | [_], _ => rfl
theorem ba_heads_by : BA "heads_by" "heads_by" s_heads_by ["some", "order"] := fun _ _ _ _ _ _ us hl => match us, hl with
  | [_, _], _ => rfl
theorem ba_look_doubles : BA "look_doubles" "look_doubles" s_look_doubles ["places"] := fun _ _ _ _ _ _ us hl => match us, hl with
  | [_], _ => rfl
theorem ba_wide_of : BA "wide_of" "wide_of" s_wide_of ["columns", "parts", "heads", "cells"] := fun _ _ _ _ _ _ us hl => match us, hl with
  | [_, _, _, _], _ => rfl
theorem ba_folded : BA "folded" "folded" s_folded ["table", "key", "names", "values", "order"] := fun _ _ _ _ _ _ us hl => match us, hl with
  | [_, _, _, _, _], _ => rfl
theorem ba_unfolded : BA "unfolded" "unfolded" s_unfolded ["wide"] := fun _ _ _ _ _ _ us hl => match us, hl with
  | [_], _ => rfl
theorem ba_gaps : BA "gaps" "gaps" s_gaps ["wide"] := fun _ _ _ _ _ _ us hl => match us, hl with
  | [_], _ => rfl
theorem ba_sum_of : BA "sum_of" "sum_of" s_sum_of ["some"] := fun _ _ _ _ _ _ us hl => match us, hl with
  | [_], _ => rfl
theorem ba_last_of : BA "last_of" "last_of" s_last_of ["some"] := fun _ _ _ _ _ _ us hl => match us, hl with
  | [_], _ => rfl
theorem ba_put_together : BA "put_together" "put_together" s_put_together ["some", "way"] := fun _ _ _ _ _ _ us hl => match us, hl with
  | [_, _], _ => rfl
theorem ba_look_ways : BA "look_ways" "look_ways" s_look_ways ["values", "ways"] := fun _ _ _ _ _ _ us hl => match us, hl with
  | [_, _], _ => rfl
theorem ba_rows_at : BA "rows_at" "rows_at" s_rows_at ["table", "key", "names"] := fun _ _ _ _ _ _ us hl => match us, hl with
  | [_, _, _], _ => rfl
theorem ba_cell_of : BA "cell_of" "cell_of" s_cell_of ["rows", "numbers", "ways"] := fun _ _ _ _ _ _ us hl => match us, hl with
  | [_, _, _], _ => rfl
theorem ba_folded_by : BA "folded_by" "folded_by" s_folded_by ["table", "key", "names", "values", "ways", "order"] := fun _ _ _ _ _ _ us hl => match us, hl with
  | [_, _, _, _, _, _], _ => rfl
theorem ba_look_unlike : BA "look_unlike" "look_unlike" s_look_unlike ["table", "names"] := fun _ _ _ _ _ _ us hl => match us, hl with
  | [_, _], _ => rfl
theorem ba_sources : BA "sources" "sources" s_sources ["table", "key", "names", "order"] := fun _ _ _ _ _ _ us hl => match us, hl with
  | [_, _, _, _], _ => rfl
theorem ba_rolled : BA "rolled" "rolled" s_rolled ["table", "key", "names", "values", "ways", "order", "deep", "far"] := fun _ _ _ _ _ _ us hl => match us, hl with
  | [_, _, _, _, _, _, _, _], _ => rfl
theorem ba_cut_tuples : BA "cut_tuples" "cut_tuples" s_cut_tuples ["some", "many"] := fun _ _ _ _ _ _ us hl => match us, hl with
  | [_, _], _ => rfl
theorem ba_cells_together : BA "cells_together" "cells_together" s_cells_together ["cells", "ways"] := fun _ _ _ _ _ _ us hl => match us, hl with
  | [_, _], _ => rfl
theorem ba_look_ways2 : BA "look_ways" "look_ways" s_look_ways2 ["wide", "ways"] := fun _ _ _ _ _ _ us hl => match us, hl with
  | [_, _], _ => rfl
theorem ba_added : BA "added" "added" s_added ["wide", "ways", "deep", "far"] := fun _ _ _ _ _ _ us hl => match us, hl with
  | [_, _, _, _], _ => rfl
theorem ba_margins : BA "margins" "margins" s_margins ["wide", "ways"] := fun _ _ _ _ _ _ us hl => match us, hl with
  | [_, _], _ => rfl
theorem ba_holds : BA "holds" "holds" s_holds ["value", "word", "other"] := fun _ _ _ _ _ _ us hl => match us, hl with
  | [_, _, _], _ => rfl
theorem ba_look_columns : BA "look_columns" "look_columns" s_look_columns ["columns", "names"] := fun _ _ _ _ _ _ us hl => match us, hl with
  | [_, _], _ => rfl
theorem ba_look_words : BA "look_words" "look_words" s_look_words ["conditions"] := fun _ _ _ _ _ _ us hl => match us, hl with
  | [_], _ => rfl
theorem ba_looked : BA "looked" "looked" s_looked ["columns", "row", "conditions"] := fun _ _ _ _ _ _ us hl => match us, hl with
  | [_, _, _], _ => rfl
theorem ba_rows_where : BA "rows_where" "rows_where" s_rows_where ["table", "conditions"] := fun _ _ _ _ _ _ us hl => match us, hl with
  | [_, _], _ => rfl
theorem ba_look_question : BA "look_question" "look_question" s_look_question ["table", "question"] := fun _ _ _ _ _ _ us hl => match us, hl with
  | [_, _], _ => rfl
theorem ba_each_once : BA "each_once" "each_once" s_each_once ["values"] := fun _ _ _ _ _ _ us hl => match us, hl with
  | [_], _ => rfl
theorem ba_answer : BA "answer" "answer" s_answer ["table", "question"] := fun _ _ _ _ _ _ us hl => match us, hl with
  | [_, _], _ => rfl
theorem ba_answer_wide : BA "answer_wide" "answer_wide" s_answer_wide ["wide", "question"] := fun _ _ _ _ _ _ us hl => match us, hl with
  | [_, _], _ => rfl
theorem ba_K_init : BA "__init__" "Keeper.__init__" s_K_init ["self", "columns", "key", "names", "values", "ways", "order"] := fun _ _ _ _ _ _ us hl => match us, hl with
  | [_, _, _, _, _, _, _], _ => rfl
theorem ba_K_place_of : BA "place_of" "Keeper.place_of" s_K_place_of ["self", "row"] := fun _ _ _ _ _ _ us hl => match us, hl with
  | [_, _], _ => rfl
theorem ba_K_cell_of : BA "cell_of" "Keeper.cell_of" s_K_cell_of ["self", "numbers"] := fun _ _ _ _ _ _ us hl => match us, hl with
  | [_, _], _ => rfl
theorem ba_K_found_anew : BA "found_anew" "Keeper.found_anew" s_K_found_anew ["self", "place"] := fun _ _ _ _ _ _ us hl => match us, hl with
  | [_, _], _ => rfl
theorem ba_K_put_at : BA "put_at" "Keeper.put_at" s_K_put_at ["self", "number", "row"] := fun _ _ _ _ _ _ us hl => match us, hl with
  | [_, _, _], _ => rfl
theorem ba_K_taken : BA "taken" "Keeper.taken" s_K_taken ["self", "number"] := fun _ _ _ _ _ _ us hl => match us, hl with
  | [_, _], _ => rfl
theorem ba_K_put_row : BA "put_row" "Keeper.put_row" s_K_put_row ["self", "row"] := fun _ _ _ _ _ _ us hl => match us, hl with
  | [_, _], _ => rfl
theorem ba_K_take_row : BA "take_row" "Keeper.take_row" s_K_take_row ["self", "number"] := fun _ _ _ _ _ _ us hl => match us, hl with
  | [_, _], _ => rfl
theorem ba_K_undo : BA "undo" "Keeper.undo" s_K_undo ["self"] := fun _ _ _ _ _ _ us hl => match us, hl with
  | [_], _ => rfl
theorem ba_K_wide_now : BA "wide_now" "Keeper.wide_now" s_K_wide_now ["self"] := fun _ _ _ _ _ _ us hl => match us, hl with
  | [_], _ => rfl
theorem ba_turned : BA "turned" "turned" s_turned ["wide", "key", "names"] := fun _ _ _ _ _ _ us hl => match us, hl with
  | [_, _, _], _ => rfl
theorem ba_without : BA "without" "without" s_without ["names", "name"] := fun _ _ _ _ _ _ us hl => match us, hl with
  | [_, _], _ => rfl
theorem ba_to_key : BA "to_key" "to_key" s_to_key ["wide", "name"] := fun _ _ _ _ _ _ us hl => match us, hl with
  | [_, _], _ => rfl
theorem ba_told_list : BA "told_list" "told_list" s_told_list ["order"] := fun _ _ _ _ _ _ us hl => match us, hl with
  | [_], _ => rfl
theorem ba_places_in : BA "places_in" "places_in" s_places_in ["some", "order"] := fun _ _ _ _ _ _ us hl => match us, hl with
  | [_, _], _ => rfl
theorem ba_at_places2 : BA "at_places" "at_places" s_at_places2 ["row", "places"] := fun _ _ _ _ _ _ us hl => match us, hl with
  | [_, _], _ => rfl
theorem ba_heads_in : BA "heads_in" "heads_in" s_heads_in ["wide", "order"] := fun _ _ _ _ _ _ us hl => match us, hl with
  | [_, _], _ => rfl
theorem ba_cell_rank : BA "cell_rank" "cell_rank" s_cell_rank ["cell", "place"] := fun _ _ _ _ _ _ us hl => match us, hl with
  | [_, _], _ => rfl
theorem ba_parts_by : BA "parts_by" "parts_by" s_parts_by ["wide", "head", "name"] := fun _ _ _ _ _ _ us hl => match us, hl with
  | [_, _, _], _ => rfl
theorem ba_value_text : BA "value_text" "value_text" s_value_text ["value"] := fun _ _ _ _ _ _ us hl => match us, hl with
  | [_], _ => rfl
theorem ba_words_text : BA "words_text" "words_text" s_words_text ["word", "values"] := fun _ _ _ _ _ _ us hl => match us, hl with
  | [_, _], _ => rfl
theorem ba_cell_text : BA "cell_text" "cell_text" s_cell_text ["cell"] := fun _ _ _ _ _ _ us hl => match us, hl with
  | [_], _ => rfl
theorem ba_wide_text : BA "wide_text" "wide_text" s_wide_text ["wide"] := fun _ _ _ _ _ _ us hl => match us, hl with
  | [_], _ => rfl
theorem ba__law_same : BA "_law_same" "_law_same" s__law_same ["_law_found", "_law_due"] := fun _ _ _ _ _ _ us hl => match us, hl with
  | [_, _], _ => rfl
theorem ba__law_sales : BA "_law_sales" "_law_sales" s__law_sales [] := fun _ _ _ _ _ _ us hl => match us, hl with
  | [], _ => rfl
theorem ba__law_by_town : BA "_law_by_town" "_law_by_town" s__law_by_town [] := fun _ _ _ _ _ _ us hl => match us, hl with
  | [], _ => rfl
theorem ba__law_few : BA "_law_few" "_law_few" s__law_few [] := fun _ _ _ _ _ _ us hl => match us, hl with
  | [], _ => rfl
theorem ba__law_first : BA "_law_first" "_law_first" s__law_first ["_law_which"] := fun _ _ _ _ _ _ us hl => match us, hl with
  | [_], _ => rfl
theorem ba__law_second : BA "_law_second" "_law_second" s__law_second ["_law_which"] := fun _ _ _ _ _ _ us hl => match us, hl with
  | [_], _ => rfl
theorem ba__law_kept_right : BA "_law_kept_right" "_law_kept_right" s__law_kept_right ["_law_take_here"] := fun _ _ _ _ _ _ us hl => match us, hl with
  | [_], _ => rfl
theorem ba__law_taken : BA "_law_taken" "_law_taken" s__law_taken ["_law_take_here"] := fun _ _ _ _ _ _ us hl => match us, hl with
  | [_], _ => rfl
theorem ba__law_cell_at : BA "_law_cell_at" "_law_cell_at" s_cell ["_law_script", "_law_k"] := fun _ _ _ _ _ _ us hl => match us, hl with
  | [_, _], _ => rfl
theorem ba__law_box : BA "_law_box" "_law_box" s_box ["_law_script", "_law_k"] := fun _ _ _ _ _ _ us hl => match us, hl with
  | [_, _], _ => rfl
theorem ba__law_take : BA "_law_take" "_law_take" s_take ["_law_box_here", "_law_many"] := fun _ _ _ _ _ _ us hl => match us, hl with
  | [_, _], _ => rfl
theorem ba__law_double : BA "_law_double" "_law_double" s_double [] := fun _ _ _ _ _ _ us hl => match us, hl with
  | [], _ => rfl
theorem ba_law : BA "law" "law" s_law ["_law_script"] := fun _ _ _ _ _ _ us hl => match us, hl with
  | [_], _ => rfl
theorem ba_D_init : BA "__init__" "Double.__init__" s_init ["self", "rows"] := fun _ _ _ _ _ _ us hl => match us, hl with
  | [_, _], _ => rfl
def bdK (K : PySem.W.Frag) : Bd := ⟨He.ga K "Keeper", [(adK K "P_places_in", (Str.ofString "places_in" ++ Str.ofString ".<locals>.") ++ Str.ofString "<lambda>"), (adK K "P_parts_by", (Str.ofString "parts_by" ++ Str.ofString ".<locals>.") ++ Str.ofString "<lambda>")]⟩
section
variable {K : PySem.W.Frag} {mg : Str → Option Value} {h : Heap}
theorem u_places_in_of (hne : adK K "P_places_in" ≠ adK K "P_parts_by") : ∀ q ∈ (bdK K).T, q.1 = adK K "P_places_in" → q.2 = (Str.ofString "places_in" ++ Str.ofString ".<locals>.") ++ Str.ofString "<lambda>" := fun q hq e => by
  rcases List.mem_cons.mp hq with rfl | hq
  · rfl
  · obtain rfl := List.mem_singleton.mp hq
    exact absurd e.symm hne
theorem u_parts_by_of (hne : adK K "P_places_in" ≠ adK K "P_parts_by") : ∀ q ∈ (bdK K).T, q.1 = adK K "P_parts_by" → q.2 = (Str.ofString "parts_by" ++ Str.ofString ".<locals>.") ++ Str.ofString "<lambda>" := fun q hq e => by
  rcases List.mem_cons.mp hq with rfl | hq
  · exact absurd e hne
  · obtain rfl := List.mem_singleton.mp hq
    rfl
noncomputable def theTxt {base : Heap} (X : K.In h) (G : h.Ns mainGlobals mg) (c : He.SaysD fas fns K) (e : exB K = true) (hne : adK K "P_places_in" ≠ adK K "P_parts_by") (tb : ∀ p ∈ tfs.map (He.cT K), LamX.TabB base mg p.1 p.2) : Txt K mg (bdK K) base where
  ad := adK K
  cl := He.cls_ok (c.fact 105 (f := .cls "Keeper") rfl)
  mkr := mkrA k_K_init (c.fact 106 (f := .mkr "Keeper") rfl)
  g_Keeper := He.glo_ok X G (c.fact 73 (f := .glo "Keeper") rfl)
  d_is_number := defA_of k_is_number (c.def_ 0 (d := dd_is_number) rfl) ba_is_number
  d_rank := defA_of k_rank (c.def_ 1 (d := dd_rank) rfl) ba_rank
  d_ranks := defA_of k_ranks (c.def_ 2 (d := dd_ranks) rfl) ba_ranks
  d_stands_ahead := defA_of k_stands_ahead (c.def_ 3 (d := dd_stands_ahead) rfl) ba_stands_ahead
  d_risen := defA_of k_risen (c.def_ 4 (d := dd_risen) rfl) ba_risen
  d_places_of := defA_of k_places_of (c.def_ 5 (d := dd_places_of) rfl) ba_places_of
  d_at_places := defA_of k_at_places (c.def_ 6 (d := dd_at_places) rfl) ba_at_places
  d_parts_of := defA_of k_parts_of (c.def_ 7 (d := dd_parts_of) rfl) ba_parts_of
  d_kept := defA_of k_kept (c.def_ 8 (d := dd_kept) rfl) ba_kept
  d_numbers_by := defA_of k_numbers_by (c.def_ 9 (d := dd_numbers_by) rfl) ba_numbers_by
  d_look_parted := defA_of k_look_parted (c.def_ 10 (d := dd_look_parted) rfl) ba_look_parted
  d_look_order := defA_of k_look_order (c.def_ 11 (d := dd_look_order) rfl) ba_look_order
  d_unlike_ones := defA_of k_unlike_ones (c.def_ 12 (d := dd_unlike_ones) rfl) ba_unlike_ones
  d_heads_by := defA_of k_heads_by (c.def_ 13 (d := dd_heads_by) rfl) ba_heads_by
  d_look_doubles := defA_of k_look_doubles (c.def_ 14 (d := dd_look_doubles) rfl) ba_look_doubles
  d_wide_of := defA_of k_wide_of (c.def_ 15 (d := dd_wide_of) rfl) ba_wide_of
  d_folded := defA_of k_folded (c.def_ 16 (d := dd_folded) rfl) ba_folded
  d_unfolded := defA_of k_unfolded (c.def_ 17 (d := dd_unfolded) rfl) ba_unfolded
  d_gaps := defA_of k_gaps (c.def_ 18 (d := dd_gaps) rfl) ba_gaps
  d_sum_of := defA_of k_sum_of (c.def_ 19 (d := dd_sum_of) rfl) ba_sum_of
  d_last_of := defA_of k_last_of (c.def_ 20 (d := dd_last_of) rfl) ba_last_of
  d_put_together := defA_of k_put_together (c.def_ 21 (d := dd_put_together) rfl) ba_put_together
  d_look_ways := defA_of k_look_ways (c.def_ 22 (d := dd_look_ways) rfl) ba_look_ways
  d_rows_at := defA_of k_rows_at (c.def_ 23 (d := dd_rows_at) rfl) ba_rows_at
  d_cell_of := defA_of k_cell_of (c.def_ 24 (d := dd_cell_of) rfl) ba_cell_of
  d_folded_by := defA_of k_folded_by (c.def_ 25 (d := dd_folded_by) rfl) ba_folded_by
  d_look_unlike := defA_of k_look_unlike (c.def_ 26 (d := dd_look_unlike) rfl) ba_look_unlike
  d_sources := defA_of k_sources (c.def_ 27 (d := dd_sources) rfl) ba_sources
  d_rolled := defA_of k_rolled (c.def_ 28 (d := dd_rolled) rfl) ba_rolled
  d_cut_tuples := defA_of k_cut_tuples (c.def_ 29 (d := dd_cut_tuples) rfl) ba_cut_tuples
  d_cells_together := defA_of k_cells_together (c.def_ 30 (d := dd_cells_together) rfl) ba_cells_together
  d_look_ways2 := defA_of k_look_ways2 (c.def_ 31 (d := dd_look_ways2) rfl) ba_look_ways2
  d_added := defA_of k_added (c.def_ 32 (d := dd_added) rfl) ba_added
  d_margins := defA_of k_margins (c.def_ 33 (d := dd_margins) rfl) ba_margins
  d_holds := defA_of k_holds (c.def_ 34 (d := dd_holds) rfl) ba_holds
  d_look_columns := defA_of k_look_columns (c.def_ 35 (d := dd_look_columns) rfl) ba_look_columns
  d_look_words := defA_of k_look_words (c.def_ 36 (d := dd_look_words) rfl) ba_look_words
  d_looked := defA_of k_looked (c.def_ 37 (d := dd_looked) rfl) ba_looked
  d_rows_where := defA_of k_rows_where (c.def_ 38 (d := dd_rows_where) rfl) ba_rows_where
  d_look_question := defA_of k_look_question (c.def_ 39 (d := dd_look_question) rfl) ba_look_question
  d_each_once := defA_of k_each_once (c.def_ 40 (d := dd_each_once) rfl) ba_each_once
  d_answer := defA_of k_answer (c.def_ 41 (d := dd_answer) rfl) ba_answer
  d_answer_wide := defA_of k_answer_wide (c.def_ 42 (d := dd_answer_wide) rfl) ba_answer_wide
  d_K_init := defA_of k_K_init (c.def_ 43 (d := dd_K_init) rfl) ba_K_init
  d_K_place_of := defA_of k_K_place_of (c.def_ 44 (d := dd_K_place_of) rfl) ba_K_place_of
  d_K_cell_of := defA_of k_K_cell_of (c.def_ 45 (d := dd_K_cell_of) rfl) ba_K_cell_of
  d_K_found_anew := defA_of k_K_found_anew (c.def_ 46 (d := dd_K_found_anew) rfl) ba_K_found_anew
  d_K_put_at := defA_of k_K_put_at (c.def_ 47 (d := dd_K_put_at) rfl) ba_K_put_at
  d_K_taken := defA_of k_K_taken (c.def_ 48 (d := dd_K_taken) rfl) ba_K_taken
  d_K_put_row := defA_of k_K_put_row (c.def_ 49 (d := dd_K_put_row) rfl) ba_K_put_row
  d_K_take_row := defA_of k_K_take_row (c.def_ 50 (d := dd_K_take_row) rfl) ba_K_take_row
  d_K_undo := defA_of k_K_undo (c.def_ 51 (d := dd_K_undo) rfl) ba_K_undo
  d_K_wide_now := defA_of k_K_wide_now (c.def_ 52 (d := dd_K_wide_now) rfl) ba_K_wide_now
  d_turned := defA_of k_turned (c.def_ 53 (d := dd_turned) rfl) ba_turned
  d_without := defA_of k_without (c.def_ 54 (d := dd_without) rfl) ba_without
  d_to_key := defA_of k_to_key (c.def_ 55 (d := dd_to_key) rfl) ba_to_key
  d_told_list := defA_of k_told_list (c.def_ 56 (d := dd_told_list) rfl) ba_told_list
  d_places_in := defC_of k_places_in kc_places_in (c.def_ 57 (d := dd_places_in) rfl) ba_places_in
  tb_places_in := by rw [adK_c kc_places_in, adK_p kp_places_in]; exact tb _ (by simp [tfs])
  t_places_in := by simp [bdK]
  u_places_in := u_places_in_of hne
  d_at_places2 := defA_of k_at_places2 (c.def_ 58 (d := dd_at_places2) rfl) ba_at_places2
  d_heads_in := defA_of k_heads_in (c.def_ 59 (d := dd_heads_in) rfl) ba_heads_in
  d_cell_rank := defA_of k_cell_rank (c.def_ 60 (d := dd_cell_rank) rfl) ba_cell_rank
  d_parts_by := defC_of k_parts_by kc_parts_by (c.def_ 61 (d := dd_parts_by) rfl) ba_parts_by
  tb_parts_by := by rw [adK_c kc_parts_by, adK_p kp_parts_by]; exact tb _ (by simp [tfs])
  t_parts_by := by simp [bdK]
  u_parts_by := u_parts_by_of hne
  d_value_text := defA_of k_value_text (c.def_ 62 (d := dd_value_text) rfl) ba_value_text
  d_words_text := defA_of k_words_text (c.def_ 63 (d := dd_words_text) rfl) ba_words_text
  d_cell_text := defA_of k_cell_text (c.def_ 64 (d := dd_cell_text) rfl) ba_cell_text
  d_wide_text := defA_of k_wide_text (c.def_ 65 (d := dd_wide_text) rfl) ba_wide_text
  d__law_same := defA_of k__law_same (c.def_ 66 (d := dd__law_same) rfl) ba__law_same
  d__law_sales := defA_of k__law_sales (c.def_ 67 (d := dd__law_sales) rfl) ba__law_sales
  d__law_by_town := defA_of k__law_by_town (c.def_ 68 (d := dd__law_by_town) rfl) ba__law_by_town
  d__law_few := defA_of k__law_few (c.def_ 69 (d := dd__law_few) rfl) ba__law_few
  d__law_first := defA_of k__law_first (c.def_ 70 (d := dd__law_first) rfl) ba__law_first
  d__law_second := defA_of k__law_second (c.def_ 71 (d := dd__law_second) rfl) ba__law_second
  d__law_kept_right := defA_of k__law_kept_right (c.def_ 72 (d := dd__law_kept_right) rfl) ba__law_kept_right
  d__law_taken := defA_of k__law_taken (c.def_ 73 (d := dd__law_taken) rfl) ba__law_taken
  g_at_places_tables := gloA X G k_at_places (c.fact 0 (f := .glo "at_places_tables") rfl)
  g_at_places_orders := gloE X G k_at_places2 (c.fact 1 (f := .glo "at_places_orders") rfl) (exB_at e 11 rfl)
  g_look_ways_foldby := gloA X G k_look_ways (c.fact 2 (f := .glo "look_ways_foldby") rfl)
  g_look_ways_along := gloE X G k_look_ways2 (c.fact 3 (f := .glo "look_ways_along") rfl) (exB_at e 12 rfl)
  g_at_places := gloA X G k_at_places2 (c.fact 4 (f := .glo "at_places") rfl)
  g_look_ways := gloA X G k_look_ways2 (c.fact 5 (f := .glo "look_ways") rfl)
  g_is_number := gloA X G k_is_number (c.fact 6 (f := .glo "is_number") rfl)
  g_rank := gloA X G k_rank (c.fact 7 (f := .glo "rank") rfl)
  g_ranks := gloA X G k_ranks (c.fact 8 (f := .glo "ranks") rfl)
  g_stands_ahead := gloA X G k_stands_ahead (c.fact 9 (f := .glo "stands_ahead") rfl)
  g_risen := gloA X G k_risen (c.fact 10 (f := .glo "risen") rfl)
  g_places_of := gloA X G k_places_of (c.fact 11 (f := .glo "places_of") rfl)
  g_parts_of := gloA X G k_parts_of (c.fact 12 (f := .glo "parts_of") rfl)
  g_kept := gloA X G k_kept (c.fact 13 (f := .glo "kept") rfl)
  g_numbers_by := gloA X G k_numbers_by (c.fact 14 (f := .glo "numbers_by") rfl)
  g_look_parted := gloA X G k_look_parted (c.fact 15 (f := .glo "look_parted") rfl)
  g_look_order := gloA X G k_look_order (c.fact 16 (f := .glo "look_order") rfl)
  g_unlike_ones := gloA X G k_unlike_ones (c.fact 17 (f := .glo "unlike_ones") rfl)
  g_heads_by := gloA X G k_heads_by (c.fact 18 (f := .glo "heads_by") rfl)
  g_look_doubles := gloA X G k_look_doubles (c.fact 19 (f := .glo "look_doubles") rfl)
  g_wide_of := gloA X G k_wide_of (c.fact 20 (f := .glo "wide_of") rfl)
  g_folded := gloA X G k_folded (c.fact 21 (f := .glo "folded") rfl)
  g_unfolded := gloA X G k_unfolded (c.fact 22 (f := .glo "unfolded") rfl)
  g_gaps := gloA X G k_gaps (c.fact 23 (f := .glo "gaps") rfl)
  g_sum_of := gloA X G k_sum_of (c.fact 24 (f := .glo "sum_of") rfl)
  g_last_of := gloA X G k_last_of (c.fact 25 (f := .glo "last_of") rfl)
  g_put_together := gloA X G k_put_together (c.fact 26 (f := .glo "put_together") rfl)
  g_rows_at := gloA X G k_rows_at (c.fact 27 (f := .glo "rows_at") rfl)
  g_cell_of := gloA X G k_cell_of (c.fact 28 (f := .glo "cell_of") rfl)
  g_folded_by := gloA X G k_folded_by (c.fact 29 (f := .glo "folded_by") rfl)
  g_look_unlike := gloA X G k_look_unlike (c.fact 30 (f := .glo "look_unlike") rfl)
  g_sources := gloA X G k_sources (c.fact 31 (f := .glo "sources") rfl)
  g_rolled := gloA X G k_rolled (c.fact 32 (f := .glo "rolled") rfl)
  g_cut_tuples := gloA X G k_cut_tuples (c.fact 33 (f := .glo "cut_tuples") rfl)
  g_cells_together := gloA X G k_cells_together (c.fact 34 (f := .glo "cells_together") rfl)
  g_added := gloA X G k_added (c.fact 35 (f := .glo "added") rfl)
  g_margins := gloA X G k_margins (c.fact 36 (f := .glo "margins") rfl)
  g_holds := gloA X G k_holds (c.fact 37 (f := .glo "holds") rfl)
  g_look_columns := gloA X G k_look_columns (c.fact 38 (f := .glo "look_columns") rfl)
  g_look_words := gloA X G k_look_words (c.fact 39 (f := .glo "look_words") rfl)
  g_looked := gloA X G k_looked (c.fact 40 (f := .glo "looked") rfl)
  g_rows_where := gloA X G k_rows_where (c.fact 41 (f := .glo "rows_where") rfl)
  g_look_question := gloA X G k_look_question (c.fact 42 (f := .glo "look_question") rfl)
  g_each_once := gloA X G k_each_once (c.fact 43 (f := .glo "each_once") rfl)
  g_answer := gloA X G k_answer (c.fact 44 (f := .glo "answer") rfl)
  g_answer_wide := gloA X G k_answer_wide (c.fact 45 (f := .glo "answer_wide") rfl)
  g_turned := gloA X G k_turned (c.fact 46 (f := .glo "turned") rfl)
  g_without := gloA X G k_without (c.fact 47 (f := .glo "without") rfl)
  g_to_key := gloA X G k_to_key (c.fact 48 (f := .glo "to_key") rfl)
  g_told_list := gloA X G k_told_list (c.fact 49 (f := .glo "told_list") rfl)
  g_places_in := gloA X G k_places_in (c.fact 50 (f := .glo "places_in") rfl)
  g_heads_in := gloA X G k_heads_in (c.fact 51 (f := .glo "heads_in") rfl)
  g_cell_rank := gloA X G k_cell_rank (c.fact 52 (f := .glo "cell_rank") rfl)
  g_parts_by := gloA X G k_parts_by (c.fact 53 (f := .glo "parts_by") rfl)
  g_value_text := gloA X G k_value_text (c.fact 54 (f := .glo "value_text") rfl)
  g_words_text := gloA X G k_words_text (c.fact 55 (f := .glo "words_text") rfl)
  g_cell_text := gloA X G k_cell_text (c.fact 56 (f := .glo "cell_text") rfl)
  g_wide_text := gloA X G k_wide_text (c.fact 57 (f := .glo "wide_text") rfl)
  g__law_same := gloA X G k__law_same (c.fact 58 (f := .glo "_law_same") rfl)
  g__law_sales := gloA X G k__law_sales (c.fact 59 (f := .glo "_law_sales") rfl)
  g__law_by_town := gloA X G k__law_by_town (c.fact 60 (f := .glo "_law_by_town") rfl)
  g__law_few := gloA X G k__law_few (c.fact 61 (f := .glo "_law_few") rfl)
  g__law_first := gloA X G k__law_first (c.fact 62 (f := .glo "_law_first") rfl)
  g__law_second := gloA X G k__law_second (c.fact 63 (f := .glo "_law_second") rfl)
  g__law_kept_right := gloA X G k__law_kept_right (c.fact 64 (f := .glo "_law_kept_right") rfl)
  g__law_taken := gloA X G k__law_taken (c.fact 65 (f := .glo "_law_taken") rfl)
  m_place_of := methA k_K_place_of (c.fact 115 (f := .meth "Keeper" "place_of") rfl)
  m_cell_of := methA k_K_cell_of (c.fact 116 (f := .meth "Keeper" "cell_of") rfl)
  m_found_anew := methA k_K_found_anew (c.fact 117 (f := .meth "Keeper" "found_anew") rfl)
  m_put_at := methA k_K_put_at (c.fact 118 (f := .meth "Keeper" "put_at") rfl)
  m_taken := methA k_K_taken (c.fact 119 (f := .meth "Keeper" "taken") rfl)
  m_put_row := methA k_K_put_row (c.fact 120 (f := .meth "Keeper" "put_row") rfl)
  m_take_row := methA k_K_take_row (c.fact 121 (f := .meth "Keeper" "take_row") rfl)
  m_undo := methA k_K_undo (c.fact 122 (f := .meth "Keeper" "undo") rfl)
  m_wide_now := methA k_K_wide_now (c.fact 123 (f := .meth "Keeper" "wide_now") rfl)
  n_table := He.noat_ok (c.fact 107 (f := .noat "Keeper" "table") rfl)
  n_told := He.noat_ok (c.fact 108 (f := .noat "Keeper" "told") rfl)
  n_places := He.noat_ok (c.fact 109 (f := .noat "Keeper" "places") rfl)
  n_coming := He.noat_ok (c.fact 110 (f := .noat "Keeper" "coming") rfl)
  n_rows := He.noat_ok (c.fact 111 (f := .noat "Keeper" "rows") rfl)
  n_by_place := He.noat_ok (c.fact 112 (f := .noat "Keeper" "by_place") rfl)
  n_cells := He.noat_ok (c.fact 113 (f := .noat "Keeper" "cells") rfl)
  n_past := He.noat_ok (c.fact 114 (f := .noat "Keeper" "past") rfl)
  b_abs := He.free_ok X G (c.fact 76 (f := .free "abs") rfl)
  b_all := He.free_ok X G (c.fact 77 (f := .free "all") rfl)
  b_any := He.free_ok X G (c.fact 78 (f := .free "any") rfl)
  b_bool := He.free_ok X G (c.fact 79 (f := .free "bool") rfl)
  b_dict := He.free_ok X G (c.fact 80 (f := .free "dict") rfl)
  b_enumerate := He.free_ok X G (c.fact 81 (f := .free "enumerate") rfl)
  b_int := He.free_ok X G (c.fact 82 (f := .free "int") rfl)
  b_isinstance := He.free_ok X G (c.fact 83 (f := .free "isinstance") rfl)
  b_len := He.free_ok X G (c.fact 84 (f := .free "len") rfl)
  b_list := He.free_ok X G (c.fact 85 (f := .free "list") rfl)
  b_min := He.free_ok X G (c.fact 86 (f := .free "min") rfl)
  b_range := He.free_ok X G (c.fact 87 (f := .free "range") rfl)
  b_set := He.free_ok X G (c.fact 88 (f := .free "set") rfl)
  b_sorted := He.free_ok X G (c.fact 89 (f := .free "sorted") rfl)
  b_str := He.free_ok X G (c.fact 90 (f := .free "str") rfl)
  b_sum := He.free_ok X G (c.fact 91 (f := .free "sum") rfl)
  b_tuple := He.free_ok X G (c.fact 92 (f := .free "tuple") rfl)
  b_zip := He.free_ok X G (c.fact 93 (f := .free "zip") rfl)
  c_SEEN := He.str_ok X G (c.fact 94 (f := .str "SEEN" "seen") rfl)
  c_RISING := He.str_ok X G (c.fact 95 (f := .str "RISING" "rising") rfl)
  c_IS := He.str_ok X G (c.fact 96 (f := .str "IS" "is") rfl)
  c_NOT := He.str_ok X G (c.fact 97 (f := .str "NOT" "not") rfl)
  c_BELOW := He.str_ok X G (c.fact 98 (f := .str "BELOW" "below") rfl)
  c_ABOVE := He.str_ok X G (c.fact 99 (f := .str "ABOVE" "above") rfl)
  c_ROWS := He.str_ok X G (c.fact 100 (f := .str "ROWS" "rows") rfl)
  c_ALL := He.str_ok X G (c.fact 101 (f := .str "ALL" "all") rfl)
  c_QUOTE := He.str_ok X G (c.fact 102 (f := .str "QUOTE" "'") rfl)
  c_STROKE := He.str_ok X G (c.fact 103 (f := .str "STROKE" "\\") rfl)
  c_GAP := He.str_ok X G (c.fact 104 (f := .str "GAP" "_") rfl)
  a_WAYS := He.ga K "WAYS"
  c_WAYS := ⟨He.glo_ok X G (c.fact 74 (f := .glo "WAYS") rfl), fun H => tfB_ok (exB_at e 9 rfl) H⟩
  a_ADDING := He.ga K "ADDING"
  c_ADDING := ⟨He.glo_ok X G (c.fact 75 (f := .glo "ADDING") rfl), fun H => tfB_ok (exB_at e 10 rfl) H⟩
noncomputable def theTxtM (X : K.In h) (G : h.Ns mainGlobals mg) (c : He.SaysD fas fns K) : TxtM K mg where
  cell := He.ga K "_law_cell_at"
  box := He.ga K "_law_box"
  take := He.ga K "_law_take"
  law := He.ga K "law"
  dbl := He.ga K "_law_double"
  d_cell := defF_of (c.def_ 74 (d := dd__law_cell_at) rfl) ba__law_cell_at
  d_box := defF_of (c.def_ 75 (d := dd__law_box) rfl) ba__law_box
  d_take := defF_of (c.def_ 76 (d := dd__law_take) rfl) ba__law_take
  d_law := defF_of (c.def_ 78 (d := dd_law) rfl) ba_law
  g_cell := He.glo_ok X G (c.fact 66 (f := .glo "_law_cell_at") rfl)
  g_box := He.glo_ok X G (c.fact 67 (f := .glo "_law_box") rfl)
  g_take := He.glo_ok X G (c.fact 68 (f := .glo "_law_take") rfl)
  g_dbl := He.glo_ok X G (c.fact 69 (f := .glo "_law_double") rfl)
  b_len := He.free_ok X G (c.fact 84 (f := .free "len") rfl)
  b_abs := He.free_ok X G (c.fact 76 (f := .free "abs") rfl)
  b_int := He.free_ok X G (c.fact 82 (f := .free "int") rfl)
  b_min := He.free_ok X G (c.fact 86 (f := .free "min") rfl)
  b_range := He.free_ok X G (c.fact 87 (f := .free "range") rfl)
noncomputable def theTxtD (X : K.In h) (G : h.Ns mainGlobals mg) (c : He.SaysD fas fns K) (e : exB K = true) : TxtD K mg where
  dc := He.ga K "Double"
  fc := He.ga K "FoldError"
  ini := He.ma K (He.ga K "Double") "__init__"
  dbl := He.ga K "_law_double"
  oex := oexB_ok (exB_at e 0 rfl)
  xf := xfB_ok (exB_at e 1 rfl)
  g_dc := He.glo_ok X G (c.fact 71 (f := .glo "Double") rfl)
  g_fc := He.glo_ok X G (c.fact 72 (f := .glo "FoldError") rfl)
  iC := He.eqO_ok (exB_at e 3 rfl)
  tI := of_decide_eq_true (exB_at e 4 rfl)
  d_ini := defF_of (c.def_ 79 (d := dd_D_init) rfl) ba_D_init
  d_dbl := defF_of (c.def_ 77 (d := dd__law_double) rfl) ba__law_double
  no_rows := He.eqO_ok (exB_at e 2 rfl)
  fsp := He.eqO_ok (exB_at e 5 rfl)
  fty := of_decide_eq_true (exB_at e 6 rfl)
  frd := exB_at e 7 rfl
  fin := finB_ok (exB_at e 8 rfl)
  xm := He.exm_ok (c.fact 124 (f := .exm "Double" "Double" true) rfl)
end
theorem the_end {w : World} {mg : Str → Option Value} {fa : Addr} {h : Heap} (Y : hk.says w h) (G : h.Ns mainGlobals mg) (hmg : mg "law" = some (.ref fa)) : ∃ K : PySem.W.Frag, K.In h ∧ LamX.LawAtS PySem.Challenge.rw_pivotfold_k72_whole_everyday_tables w K L2.CX0 10 63 "_law_script" mg fa h := by
  obtain ⟨K, KX, c⟩ := Y
  have d : He.SaysD fas fns K := c.t.d
  have e := c.more
  have hne : adK K "P_places_in" ≠ adK K "P_parts_by" := by
    rw [adK_p kp_places_in, adK_p kp_parts_by]
    exact of_decide_eq_true (exB_at e 13 rfl)
  obtain ⟨fd, F⟩ : ∃ fd, FunD K "law" "law" (defArgs s_law) (defBody s_law) (defScope s_law) [] [] (He.ga K "law") fd := d.def_ 78 (d := dd_law) rfl
  have F2 : Fun K "law" "law" s_law (He.ga K "law") fd := fun_of (ps := ["_law_script"]) F
  have ea := hmg.symm.trans (He.glo_ok KX G (d.fact 70 (f := .glo "law") rfl))
  cases ea
  have b := FunD.bindsA (ps := ["_law_script"]) F ba_law
  refine ⟨K, KX, fd, tfs.map (He.cT K), spLaw (bdK K) K, fun p hp => ?_, fun p hp => ?_, fun p hp => ?_, fun s u => b s [u] rfl, fun H a ns hl _ hH hS => ⟨a, ns, rfl, hS, hl, fun t ht => ?_, fun _ => rfl⟩, fun base hb G2 tb => ?_⟩
  · obtain ⟨r, hr, rfl⟩ := List.mem_map.mp hp
    exact c.empty r hr
  · obtain ⟨r, hr, rfl⟩ := List.mem_map.mp hp
    exact c.out r hr
  · obtain ⟨r, hr, rfl⟩ := List.mem_map.mp hp
    exact PySem.W.codeHd_of_K KX (c.hd r hr)
  · refine LamX.TabS.nil ?_
    rcases List.mem_cons.mp ht with rfl | ht
    · show H (adK K "P_places_in") = _
      rw [adK_p kp_places_in]
      exact hH (He.cT K (("places_in" : Str), none)) (List.mem_map.mpr ⟨_, .head _, rfl⟩)
    · obtain rfl := List.mem_singleton.mp ht
      show H (adK K "P_parts_by") = _
      rw [adK_p kp_parts_by]
      exact hH (He.cT K (("parts_by" : Str), none)) (List.mem_map.mpr ⟨_, .tail _ (.head _), rfl⟩)
  · exact ok_law (theTxt KX G d e hne tb) (theTxtM KX G d) (ok_double (theTxt KX G d e hne tb) (theTxtD KX G d e)) F2
end Ev
open PySem PySem.W PySem.Calls PyProof.Rows
set_option maxHeartbeats 0 in
theorem PySem.Challenge.cw_pivotfold_k72_whole_everyday_tables_holds : PySem.Challenge.rw_pivotfold_k72_whole_everyday_tables.Holds := by
  w_on; o_law
  refine HandSHeadRun.head_any (r := OpenLaw.row PySem.Challenge.rw_pivotfold_k72_whole_everyday_tables) (q := view (OpenLaw.row PySem.Challenge.rw_pivotfold_k72_whole_everyday_tables).prog [110]) (H := EvH.hk) (ob := EvH.ob) (M := 20000) (loose := EvH.loose) (d := HandSHeadRun.topDef (OpenLaw.row PySem.Challenge.rw_pivotfold_k72_whole_everyday_tables).prog 110) (kwd := []) EvH.ob_eq
    (by kernel_rfl) (fun s => by kernel_rfl) EvH.run (by kernel_rfl) (by kernel_rfl) (by kernel_rfl) (by rfl) (by first | assumption | decide +kernel) (by decide +kernel) ⟨rfl, rfl, rfl, rfl, rfl, by decide +kernel⟩ ?hw ?hc
  case hw => w_witness2
  case hc =>
    refine LamX.walk_ofTsE (l := PySem.Challenge.rw_pivotfold_k72_whole_everyday_tables) (n := 63) (k := 10) (x := "_law_script") (CX := fun _ => L2.CX0) rfl (by decide) (by kernel_rfl) ⟨rfl, by decide, by decide⟩ ?F (fun _ _ _ _ _ z => z)
    intro w mg fa h Y G hmg0
    have hmg : mg ("law" : PySem.Str) = some (.ref fa) := by
      have e : (HandSHeadRun.topDef (OpenLaw.row PySem.Challenge.rw_pivotfold_k72_whole_everyday_tables).prog 110).name = ("law" : PySem.Str) := by kernel_rfl
      rw [← e]
      exact hmg0
    exact Ev.the_end Y G hmg
